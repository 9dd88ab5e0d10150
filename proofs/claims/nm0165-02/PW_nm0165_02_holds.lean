import PyProof.Rows.All
import OpenK.AllK
import PyProof.Rows.KernelRfl
import Wide.All
import Wide.FinOn
import Lean
import PySem.Challenge.RW_nm0165_02
set_option Elab.async false
set_option bootstrap.genMatcherCode false
set_option genSizeOf false
set_option backward.match.sparseCases false
set_option genInjectivity false
set_option genSizeOfSpec false
set_option maxRecDepth 100000
set_option maxHeartbeats 8000000
set_option linter.all false
set_option hygiene false
set_option compiler.extract_closed false
set_option genCtorIdx false
noncomputable section
namespace Mine.Lean
open Option renaming some->Y,none->LA,bind_some->ajy,map_eq_some_iff->akt,isSome_iff_exists->amg,bind->aol,map_some->aoU,none_or->ao2,elim->apE
open Bool renaming true->W,false->LB,and_eq_true->LM,or_true->akx,or_eq_true_iff->akL,not_eq_true'->ak6,noConfusion->ald,or_eq_true->alq,eq_iff_iff->amC,and_false->ao0,false_or->ape
open Option.some renaming inj->LC
open PySem renaming Value->LD,Expr->LF,Shared->LG,Addr->LP,model->LS,DictEntry->QA,Heap->VG,compareOp->VK,wpAny_mono->VL,Params->WD,sizeLine->WE,wpAny_holding->aas,NameKind->aaW,OsState->abh,World->ac9,Around->adh,foldedSetIterable->aeL,seqIndex?->aeO,sysModules->agK,Stmt->ah7,mainGlobals->ajp,wpAny_standAt->ajr,swappedStores->ajs,binaryOp->ajw,FuncData->ajx,codeAny->ajz,Scope->ajB,wpAny_field->ajD,assignEach->ajF,Program->ajI,sliceBounds->ajQ,execs->ajV,PyData->ajY,treeTable->aj5,codeAny_mono->aj6,strKind_is->akg,cellsFrom->akh,assign->akj,starEach->akr,wpAny_newObj_type->akw,callEnvC->akD,checkBuiltinCall->akE,compEnvC->akF,Result->akG,Comprehension->akI,letOwnedTupleGo->akN,ExcBaseFacts->akT,exec->ak4,wpAny_Call_ofName->ak5,swapsWithSole->ak9,bindArgs->alc,Builtin->alf,valueAt->alg,backTo->alj,codeAny_call_builtin->alr,Thread->alw,spliced->alC,wpAny_loadPart->alD,getAttr->alE,setItem->alF,noteFrame->alL,swapsWith->alM,behindInMarks->alQ,methodCallPos->alT,wpAny_letOwnedTupleGo_enum->alU,UnaryOp->alW,slot_list_getitem->alY,builtinsNs->al2,Model->al3,wpAny_rule->al6,wpAny_call->al7,call_meets->al8,isInstance->al9,getItem->amb,IsPart->ame,GenState->aml,wpAny_comp_letGo->amq,Operator->amr,BoolOp->ams,wpAny_callSpecial?_slot->amw,slot_list_setitem->amx,CmpOp->amB,wpAny_pyNext_list_item->amK,wpAny_of_eq->amL,IsRangeIter->amM,wpAny_pyNext_enum_item->amN,pyIter->amV,wpAny_pyIter_listiter->amW,wpAny_pyNext_list_end->amX,methodCallForm->amY,typeOf->amZ,wpAny_pyNext_enum_end->am1,intText?->am2,Flow->am7,Drawn->am9,unbindBehindTheSuite->anb,lookup_relabel_local->anc,strKind->ang,wpAt_of_wpAny->ank,name_of_addr->anu,wpAny_pyIter_range->anw,ScopeKind->anA,setAttr->anF,callEnv->anG,slot_dict_getitem->anW,wpAny_sequenceKey->anY,wpAny_pyIter_list->anZ,getMethod_builtin->an0,sliceBounds_plain->aoc,intKind->aof,keywordEach->aoh,wpAny_getItem_of->aoq,wpAny_call_entry->aor,ReadsAll->aos,opaqueClassAbove->aou,Spec->aoD,typeLookup->aoG,sliceRange->aoH,typeIs_str->aoI,findBy->aoJ,pyNext->aoM,wpAt_bind->aoO,wpAny_loadPart'->aoQ,codeAny_builtin->aoR,wpAny_specialOf->aoS,closureFor->aoT,importedModules->aoX,leaving->ao1,notedBy->ao3,Keyword->ao4,setFlight->ao6,getMethod->ao8,raiseStmt->ao9,call->apM
open Nat renaming le_trans->LI,beq->LK,le_refl->LL,le_of_ble_eq_true->LQ,lt_of_lt_of_le->LR,blt->VE,eq_of_beq_eq_true->VH,succ_le_succ->VT,ble->VZ,ne_of_lt->WA,le_of_succ_le_succ->ada,lt_of_le_of_lt->aeI,zero_le->aeN,add_le_add_left->ajh,lt_succ_self->ajj,le_add_right->ajk,le_succ->ajq,succ_ne_zero->ajv,succ_add_eq_add_succ->ajH,le_of_lt_succ->ajK,le_of_eq->ajS,beq_refl->ajT,lt_of_succ_le->ajZ,not_lt->aj2,zero_add->aj8,lt_trans->aj9,not_lt_zero->akf,sub_add_cancel->akk,add_right_comm->akn,lt_of_succ_lt_succ->akp,ne_of_beq_eq_false->aku,add_assoc->akJ,le_antisymm->akM,exists_eq_add_of_le'->akW,le_of_succ_le->ak7,le_of_not_lt->ale,ble_eq_true_of_le->alh,add_le_add_right->alp,not_succ_le_zero->alv,sub_add_eq->alG,add_le_add->alJ,casesOn->alK,lt_of_le_of_ne->alN,lt_irrefl->alR,lt_succ_of_le->al0,le_of_lt->amh,le_add_left->amD,min_eq_left->amF,le_of_sub_eq_zero->am3,lt_or_ge->anp,ne_of_gt->ans,succ_pos->anC,sub_self->anD,lt_or_eq_of_le->anE,sub_pos_of_lt->an2,lt_succ_of_lt->an3,min_le_right->aot,succ_ne_self->aow,lt_of_not_le->aoy,not_le_of_lt->aoC,beq_eq->aoV
open Exists renaming elim->LJ
open List renaming length_append->LN,length_map->QC,size_toArray->QD,getElem?_eq_some_iff->Sa,all_eq_true->UA,lookup_cons->VC,nodup_cons->VI,append_nil->VJ,mem_cons->VM,length_cons->VN,getElem?_eq_none->VO,map_cons->VR,getElem?_eq_none_iff->VS,getElem?_eq_getElem->WB,getElem?_set_ne->WC,mem_map->aak,length_nil->aaT,append_assoc->aa0,length_reverse->abj,getElem?_map->abI,reverse_cons->adI,mem_singleton->aeq,mem_range->aeM,range->agL,contains_cons->ajl,mem_cons_self->ajm,getElem?_append_left->ajA,getElem?_zip_eq_some->ajC,of_mem_zip->ajE,map_append->ajG,getElem_mem->ajO,length_set->ajW,any_cons->ajX,mem_of_getElem?->aj4,zip_cons_cons->aki,mem_append->akm,drop_add_one_eq_tail_drop->ako,getElem?_set_self->akq,filterMap_cons->akK,head?_drop->akP,mem_cons_of_mem->alx,drop_nil->alP,all_cons->alS,getElem?_append_right->alX,pairwise_map->alZ,nodup_append->al1,any_eq_true->amd,mem_reverse->amf,length_drop->amu,find?_cons_of_pos->amG,find?_cons_of_neg->amH,drop_eq_nil_of_le->amO,dropLast_eq_take->amQ,lookup_cons_self->amR,replicate->amT,mem_append_right->am5,nodup_nil->am6,Nodup->am8,drop_eq_nil_iff->ane,mem_append_left->anf,mem_map_of_mem->anj,lookup_append->ant,isEmpty_iff->aox,lookup_nil->aoK,length_zip->aoN,take_nil->apd,toArray->apm,map_nil->apq,lookup->apz
open PySem.Builtin.Range renaming rangeSize->QG,small->aeK,rangeFitsLong->akB
open PySem.Heap renaming get?_push_of_some->UB,lt_size->VQ,get?_push_size->VU,SameBut->abi,get?_update_self->aji,get?_update_ne->aka,get?_update_other->aks,size_push->aky,ExtBut->amJ,get?_some_iff->anz,get?_push_at->an1
open PySem.W.Fast renaming te14364793385576792824->VP,te10110043849684766642->VX,te12563942051412417395->VY,te5923862056798008813->aj0,te18344453789297297638->ak2,te15667345088766844465->anH,te11892475500146522536->anI,te11788848310118352699->anJ,te12862048085361865435->anK,te14412699480532031325->anL,te13343964577679436407->anM,te17691160309236699985->anN,te17868728402115742887->anO,te17119622794617984870->anP,te10501279942588096481->anQ,te16286561074155671207->anR,te12879404354523853263->anS,te10792542408131684335->anT,te12749700546528644094->anU,te9807087744658564304->an5,te8377067652309620493->an6,te8326940854005059898->an7,te8179353310426384613->an8,te9558739934217749035->an9,te6984425678791042302->aoa,te4187177175401517315->aob,te797321630700447069->aoj,te482687673346738481->aok,named_eq->apG
open PySem.PyData renaming eqv->VV,keyHash->aaV,canLayAll0->ace,eqvAll->ahT,tuple->ajU,depth->akV,list->ak8,depthAll->als,strOk->aps
open PySem.W renaming dictOf->aaR,Frag->aeb,findIn->aeJ,emptyDict->aeP,hasDictIn->ajM,instObj->ajN,findCls->ake,topFrame->akv,SharedT->akz,specialIn->akA,looks_findIn->akS,boot_heap->akX,piece_app->akY,segRun_of->akZ,takerIn->ak1,Looks->ala,getL->alb,putName_dict->alm,typeIn->alo,deadEnd->alI,readsIn->amc,behindTheImports->amv,doneF->amE,looks_clsIn->amI,notCls->amP,keepIn->amU,segRunT->am4,plainOver->anq,plainGet_of->aod,lookIn_dict->aoe,callWith_of->aog,any_some->aon,plainGet->aoo,boot_drawn->aoW,set_plain->ao5,boot_toks->apb
open PySem.Value renaming ref->aaS,isStrOf->ajo,none->akC,isStrOf_shape->alB,builtin->anh,isInt->apA
open Ne renaming symm->aaU
open PySem.Obj renaming mapFields->agT,putName->ajP,cls_mapFields->ak3,mapSeq->al4,isFreed_of_fields->amS,data_mapFields->anr
open Int renaming ofNat_lt->ahH,natCast_nonneg->akl,zero_add->amn,le_of_lt->amt,eq_ofNat_of_zero_le->amy,toNat_of_nonneg->ano,lt_of_le_of_lt->anB,self_le_toNat->an4,natCast_pos->aoY,le_natAbs->api,toNat_lt->apk,sub_zero->apo,le_trans->apr,sub_self->apt,add_zero->apu,lt_toNat->apv,ofNat_le->apx
open PyProof.Rows renaming subscriptTail->ajn,slot_tuple_getitem->akR,slot_str_getitem->aop,unpackItems_tuple->aoL,getItem_str->apl,truthy_int->apy,add_int->apH,sub_int->apI,mul_int->apJ,neg_int->apK,add_str->apL,eq_int->apO,ne_int->apP,lt_int->apQ,gt_int->apR,ge_int->apS,eq_str->apT,ne_str->apU
open List.cons renaming inj->ajt
open PySem.NameKind renaming free->aju,cell->akd
open PySem.Value.ref renaming inj->ajL
open Classical renaming byContradiction->aj1,choice->aoB
open PySem.Builtin.Slice renaming slicePlaces->aj3,sliceAdjust->akO,sliceApplied->alV,sliceFields->apj
open PySem.SeqAt renaming shaped->aj7,readOf->anx,items_eqAt->aov
open PySem.Builtin.Str renaming occurrences->akb
open PySem.F renaming plainAttrs_list->akc,attr_ArithmeticError->alH,excBase_Exception->ama,slot_list_append->amj,slot_list_extend->amk,slot_tuple_index->amm,slot_dict_values->amo,slot_list_index->amz,slot_list_pop->am0
open Array renaming getElem?_eq_some_iff->akH,getElem?_eq_getElem->al5,length_toList->anl,any_toList->aom,toList_inj->aoz,mk->aoA
open Nat.succ renaming inj->akQ
open PySem.Builtin.Tuple renaming tupleExact->akU,tupleItemsOf->aph
open PySem.W.WTm renaming value->ak0
open PySem.Calls renaming Name_function_global->ali,loadGlobal_global->anV
open PySem.Builtin.ObjectAttr renaming storeInDict->alk,find->amA,storeInOwnDict->aoi,newKeyGuard->aoF,storeTaker?->aoP,attrName->apa
open PySem.Data.fields renaming inj->aln
open ForInStep renaming yield->alu
open PySem.W.WShape renaming has->aly,hasItems->aoZ
open PySem.Builtin.Int renaming intBits->alz
open PySem.Heap.SameBut renaming update->alA
open PySem.ExceptHandler renaming ExceptHandler->alO
open PySem.Str renaming ofString->ami
open PySem.Around renaming under_plainId->ana
open PySem.EntryCells renaming newEntry->ani
open Std.Legacy.Range renaming forIn_eq_forIn_range'->anm,size->apF
open PySem.Code renaming quiet_builtin->anv,weight->apB,cUnits->apC
open False renaming elim->aoE
open PySem.Builtin.List renaming listSubscript?->ao7
open PySem.W.WData renaming int->apc,list->apN
open PySem.W.Looks renaming of_pure->apf,now->apX
open PySem.SeqAt.RcNeAt renaming lists_lengths->apg
open Prod renaming ext->apw
open PySem.IsRange renaming new->apD
open PySem.Heap.FunFrames renaming cons->apV
open PySem.Heap.IsSliceOf renaming new->apW
abbrev QE:=@if_neg
abbrev VD:=@if_pos
abbrev VF:=@beq_eq_false_iff_ne
abbrev VW:=@decide_eq_true
abbrev aai:=@of_decide_eq_true
abbrev abk:=@beq_self_eq_true
abbrev aer:=@decide_eq_false
abbrev ajJ:=@decide_eq_true_eq
abbrev ajR:=@beq_iff_eq
section
open PySem PySem.W
noncomputable def Tz(l:List Nat):PySem.Str:=⟨⟨l⟩⟩
noncomputable def agU(f:Nat):Nat->List Nat:=Nat.rec (λ_=>[]) (λ_ a n=>cond (LK n 0) [] (Nat.mod n 256::a (Nat.div n 256))) f
def J(n:Nat):Str:=⟨⟨agU 200 n⟩⟩
end
section
open PySem PySem.W PyProof.Rows PySem.Calls PySem.Spec
section
section
variable{T S V R X:Sort _}{G:Prop}{a0 a1 a2 a3 a4 a5:Prop}{b0 b1 b2 b3 b4 b5:T->Prop}{c0 c1 c2 c3 c4:T->S->Prop}{d0 d1 d2 d3 d4 d5:T->S->V->Prop}{e0 e1 e2:T->S->V->R->Prop}{f0 f1 f2 f3 f4 f5 f6 f7 f8 f9:T->S->V->R->X->Prop}
theorem aM(h:∃x,b0 x/\b1 x)(k:∀x,b0 x->b1 x->G):G:=h.elim λ_ h1=>k _ h1.1 h1.2
theorem bg(h:a0/\a1)(k:a0->a1->G):G:=k h.1 h.2
theorem dD(h:a0/\∃x y,c0 x y/\c1 x y)(k:a0->∀x y,c0 x y->c1 x y->G):G:=h.2.elim λ_ h1=>h1.elim λ_ a=>k h.1 _ _ a.1 a.2
theorem fS(h:a0/\a1/\a2)(k:a0->a1->a2->G):G:=k h.1 h.2.1 h.2.2
theorem hZ(h:a0/\a1/\∃x,b0 x/\b1 x)(k:a0->a1->∀x,b0 x->b1 x->G):G:=h.2.2.elim λ_ h1=>k h.1 h.2.1 _ h1.1 h1.2
theorem jU(h:∃x,b0 x/\b1 x/\b2 x)(k:∀x,b0 x->b1 x->b2 x->G):G:=h.elim λ_ h1=>k _ h1.1 h1.2.1 h1.2.2
theorem i4(h:a0/\a1/\a2/\a3)(k:a0->a1->a2->a3->G):G:=k h.1 h.2.1 h.2.2.1 h.2.2.2
theorem ia(h:∃x y z,d0 x y z/\d1 x y z/\d2 x y z)(k:∀x y z,d0 x y z->d1 x y z->d2 x y z->G):G:=h.elim λ_ h1=>h1.elim λ_ b=>b.elim λ_ a=>k _ _ _ a.1 a.2.1 a.2.2
theorem ph(h:∃x y z,d0 x y z/\d1 x y z/\d2 x y z/\d3 x y z)(k:∀x y z,d0 x y z->d1 x y z->d2 x y z->d3 x y z->G):G:=h.elim λ_ h1=>h1.elim λ_ b=>b.elim λ_ a=>k _ _ _ a.1 a.2.1 a.2.2.1 a.2.2.2
theorem qB(h:∃x,b0 x/\b1 x/\b2 x/\b3 x)(k:∀x,b0 x->b1 x->b2 x->b3 x->G):G:=h.elim λ_ h1=>k _ h1.1 h1.2.1 h1.2.2.1 h1.2.2.2
theorem nM(h:∃x y,c0 x y/\c1 x y/\c2 x y/\c3 x y/\c4 x y)(k:∀x y,c0 x y->c1 x y->c2 x y->c3 x y->c4 x y->G):G:=h.elim λ_ h1=>h1.elim λ_ a=>k _ _ a.1 a.2.1 a.2.2.1 a.2.2.2.1 a.2.2.2.2
theorem vg(h:∃x y,c0 x y/\c1 x y/\c2 x y/\c3 x y)(k:∀x y,c0 x y->c1 x y->c2 x y->c3 x y->G):G:=h.elim λ_ h1=>h1.elim λ_ a=>k _ _ a.1 a.2.1 a.2.2.1 a.2.2.2
theorem wZ(h:a0/\a1/\a2/\∃x,b0 x)(k:a0->a1->a2->∀x,b0 x->G):G:=h.2.2.2.elim λ_ h1=>k h.1 h.2.1 h.2.2.1 _ h1
theorem nJ(h:a0/\∃x,b0 x)(k:a0->∀x,b0 x->G):G:=h.2.elim λ_ h1=>k h.1 _ h1
theorem pg(h:∃x y,c0 x y/\c1 x y)(k:∀x y,c0 x y->c1 x y->G):G:=h.elim λ_ h1=>h1.elim λ_ a=>k _ _ a.1 a.2
theorem zO(h:a0/\∃x y,c0 x y/\c1 x y/\c2 x y/\c3 x y)(k:a0->∀x y,c0 x y->c1 x y->c2 x y->c3 x y->G):G:=h.2.elim λ_ h1=>h1.elim λ_ a=>k h.1 _ _ a.1 a.2.1 a.2.2.1 a.2.2.2
theorem nL(h:a0/\∃x y z,d0 x y z/\d1 x y z/\d2 x y z/\d3 x y z)(k:a0->∀x y z,d0 x y z->d1 x y z->d2 x y z->d3 x y z->G):G:=h.2.elim λ_ h1=>h1.elim λ_ b=>b.elim λ_ a=>k h.1 _ _ _ a.1 a.2.1 a.2.2.1 a.2.2.2
theorem CV(h:∃x y z u v,f0 x y z u v/\f1 x y z u v/\f2 x y z u v/\f3 x y z u v/\f4 x y z u v/\f5 x y z u v/\f6 x y z u v/\f7 x y z u v/\f8 x y z u v/\f9 x y z u v)(k:∀x y z u v,f0 x y z u v->f1 x y z u v->f2 x y z u v->f3 x y z u v->f4 x y z u v->f5 x y z u v->f6 x y z u v->f7 x y z u v->f8 x y z u v->f9 x y z u v->G):G:=h.elim λ_ h1=>h1.elim λ_ b=>b.elim λ_ e=>e.elim λ_ h4=>h4.elim λ_ a=>k _ _ _ _ _ a.1 a.2.1 a.2.2.1 a.2.2.2.1 a.2.2.2.2.1 a.2.2.2.2.2.1 a.2.2.2.2.2.2.1 a.2.2.2.2.2.2.2.1 a.2.2.2.2.2.2.2.2.1 a.2.2.2.2.2.2.2.2.2
theorem vd(h:a0/\∃x,b0 x/\b1 x)(k:a0->∀x,b0 x->b1 x->G):G:=h.2.elim λ_ h1=>k h.1 _ h1.1 h1.2
theorem vf(h:∃x y,c0 x y/\c1 x y/\c2 x y)(k:∀x y,c0 x y->c1 x y->c2 x y->G):G:=h.elim λ_ h1=>h1.elim λ_ a=>k _ _ a.1 a.2.1 a.2.2
theorem II(h:∃x y z u v,f0 x y z u v/\f1 x y z u v/\f2 x y z u v/\f3 x y z u v/\f4 x y z u v)(k:∀x y z u v,f0 x y z u v->f1 x y z u v->f2 x y z u v->f3 x y z u v->f4 x y z u v->G):G:=h.elim λ_ h1=>h1.elim λ_ b=>b.elim λ_ e=>e.elim λ_ h4=>h4.elim λ_ a=>k _ _ _ _ _ a.1 a.2.1 a.2.2.1 a.2.2.2.1 a.2.2.2.2
theorem k7(h:a0/\a1/\∃x,b0 x/\b1 x/\b2 x)(k:a0->a1->∀x,b0 x->b1 x->b2 x->G):G:=h.2.2.elim λ_ h1=>k h.1 h.2.1 _ h1.1 h1.2.1 h1.2.2
theorem CT(h:∃x,b0 x/\b1 x/\b2 x/\b3 x/\b4 x/\b5 x)(k:∀x,b0 x->b1 x->b2 x->b3 x->b4 x->b5 x->G):G:=h.elim λ_ h1=>k _ h1.1 h1.2.1 h1.2.2.1 h1.2.2.2.1 h1.2.2.2.2.1 h1.2.2.2.2.2
theorem ve(h:∃x y,c0 x y)(k:∀x y,c0 x y->G):G:=h.elim λ_ h1=>h1.elim λ_ a=>k _ _ a
theorem te(h:a0/\a1/\∃x,b0 x)(k:a0->a1->∀x,b0 x->G):G:=h.2.2.elim λ_ h1=>k h.1 h.2.1 _ h1
theorem w4(h:a0/\∃x y,c0 x y/\c1 x y/\c2 x y)(k:a0->∀x y,c0 x y->c1 x y->c2 x y->G):G:=h.2.elim λ_ h1=>h1.elim λ_ a=>k h.1 _ _ a.1 a.2.1 a.2.2
theorem aeH(h:∃x y z,d0 x y z/\d1 x y z)(k:∀x y z,d0 x y z->d1 x y z->G):G:=h.elim λ_ h1=>h1.elim λ_ b=>b.elim λ_ a=>k _ _ _ a.1 a.2
theorem CU(h:∃x y z u,e0 x y z u)(k:∀x y z u,e0 x y z u->G):G:=h.elim λ_ h1=>h1.elim λ_ a=>a.elim λ_ b=>b.elim λ_ h4=>k _ _ _ _ h4
theorem zP(h:∃x y z u,e0 x y z u/\e1 x y z u)(k:∀x y z u,e0 x y z u->e1 x y z u->G):G:=h.elim λ_ h1=>h1.elim λ_ a=>a.elim λ_ b=>b.elim λ_ h4=>k _ _ _ _ h4.1 h4.2
theorem RP(h:∃x y z,d0 x y z/\d1 x y z/\d2 x y z/\d3 x y z/\d4 x y z/\d5 x y z)(k:∀x y z,d0 x y z->d1 x y z->d2 x y z->d3 x y z->d4 x y z->d5 x y z->G):G:=h.elim λ_ h1=>h1.elim λ_ b=>b.elim λ_ a=>k _ _ _ a.1 a.2.1 a.2.2.1 a.2.2.2.1 a.2.2.2.2.1 a.2.2.2.2.2
end
theorem cL.{u} {b:Type u}{P:List b->Prop}(nil:P []) (cons:∀a l,P (a::l)) (t:List b):P t:=List.casesOn t nil cons
theorem cO.{u} {b:Type u}{P:Option b->Prop}(none:P none) (some:∀a,P (some a)) (t:Option b):P t:=Option.casesOn t none some
theorem cN{P:Nat->Prop}(zero:P 0)(succ:∀n,P (n+1))(t:Nat):P t:=alK t zero succ
theorem cB{P:Bool->Prop}(false:P false)(true:P true)(t:Bool):P t:=Bool.casesOn t false true
theorem wz{P:Nat->Prop}(k:Nat)(h:k < 0):P k:=absurd h (akf k)
theorem jk{P:Nat->Prop}{n:Nat}(b:∀k,k < n->P (k+1))(a:P 0)(k:Nat)(h:k < n+1):P k:=by
 induction k using cN with
 |zero=>exact a
 |succ k=>exact b k (akp h)
theorem lt4{P:Nat->Prop}(a:P 0)(b:P 1)(c:P 2)(d:P 3):∀k,k < 4->P k:=jk (jk (jk (jk wz d) c) b) a
theorem QO{P:Nat->Prop}(a:P 0)(b:P 1)(c:P 2)(d:P 3)(e:P 4):∀k,k < 5->P k:=jk (lt4 b c d e) a
def JK{a:Type}:Nat->(List a->Prop)->Prop
 |0,P=>P []
 |k+1,P=>∀v,JK k λl=>P (v::l)
theorem vK{a:Type}:∀{k:Nat}{P:List a->Prop}{vs:List a},vs.length=k->JK k P->P vs:=by
 intro k;induction k with
 |zero =>
  exact@λ_ vs e h=>by rw[List.eq_nil_of_length_eq_zero e];exact h
 |succ k b =>
  exact@λP vs e h=>by
   induction vs using cL with
   |nil=>exact absurd e (ajv k).symm
   |cons v r=>exact b (P:=λl=>P (v::l)) (akQ e) (h v)
theorem nK{a:Type}{b:a}{P:Prop}(h:LA=Y b):P:=by cases h
theorem bK{b e:Type}{x:Option b}{f:b->Option e}{y:e}{P:Prop}(h:x.bind f=Y y)(k:∀a,x=Y a->f a=Y y->P):P:=by
 induction x with|none=>exact nK h|some a=>exact k a rfl h
theorem sK{e:Type}{P:e->Prop}{a b:e}(h:Y a=Y b)(k:P a):P b:=LC h▸k
@[elab_as_elim] theorem sE{α:Type}{P:α->Prop}{a b:α}(h:Y a=Y b)(k:P a):P b:=LC h▸k
@[elab_as_elim] theorem H9{α β:Type}{x:Option α}{f:α->β}{P:β->Prop}{y:β}(h:x.map f=Y y)(k:∀a,x=Y a->P (f a)):P y:=by
 induction x with|none=>exact nK h|some a=>exact sK h (k a rfl)
theorem PK{a:Type}{b:Prop} [Decidable b] {x y:a}{P:Prop}(h:(if b then Y x else LA)=Y y) (k:b->x=y->P):P:=by
 by_cases q:b
 .rw[VD q]at h;exact k q (LC h)
 .rw[QE q]at h;exact nK h
theorem sN{a:Type}{b:a}{P:Prop}(h:Y b=LA):P:=by cases h
theorem bR{a:Type _}{v:a}{G:Prop}(h:LA=Y v):G:=nomatch h
theorem fZ{a:Type _}{v:a}{G:Prop}(h:Y v=LA):G:=nomatch h
theorem qK{P:Prop}(h:W=LB):P:=nomatch h
theorem fj{a:Type _}{v:a}{G:Prop}(h:v∈[]):G:=nomatch h
theorem lz{es n vs}{G:Prop}(h:Data.dict es n=Data.fields vs):G:=nomatch h
theorem bL{P:Prop}(h:LB=W):P:=by cases h
theorem aY{a b:Bool}{P:Prop}(h:(a&&b)=W)(k:a=W->b=W->P):P:=by
 induction a with
 |false=>exact bL h
 |true=>exact k rfl h
def eP{b:Type}(x:Option b)(K:b->Prop)(p:Prop):Prop:=match x with|some a=>K a|none=>p
theorem eT{a:Type}{x:Option a}{K:a->Prop}{q:a}(h:eP x K True)(e:x=Y q):K q:=by rw[e]at h;exact h
theorem eW{a:Type}{x:Option a}{K:a->Prop}(h:∀q,x=Y q->K q):eP x K True:=by
 cases x with|none=>exact trivial|some q=>exact h q rfl
set_option genCtorIdx true in
inductive O where
 |none|bool (b:Bool)|int (i:Int)|str (s:Str)
 |ref (k:Nat)|gl (a:LP)|bi (id:String)|ty (n:String)
 |tup (xs:List O)|lst (xs:List O)|obj (C:LP) (fs:List (Str×O))|exc (C:LP) (fs:List (Str×O))
 deriving Inhabited
set_option genCtorIdx true in
inductive MO where
 |lst (xs:List O)
 |bD (fs:List (Str×O))
 |inst (C:LP) (fs:List (Str×O))
 |exc (C:LP) (fs:List (Str×O))
 |dead
abbrev bj:=O->List MO->Prop
structure Sg where
 H:List MO
 μ:Nat->LP
 σ:LP->Option (Nat×Bool)
structure Vw where
 μ:Nat->LP
 N:Nat
 T:LP->Prop
mutual
inductive Rel (V:Vw) (h:VG):LD->O->Prop
 |none:Rel V h .none .none
 |bool (b:Bool):Rel V h (.bool b) (.bool b)
 |int (i:Int) (t:Tok):Rel V h (.int i t) (.int i)
 |str (x:Str) (t:Tok):Rel V h (.str x t) (.str x)
 |ref {k:Nat}:k < V.N->Rel V h (.ref (V.μ k)) (.ref k)
 |gl (a:LP):Rel V h (.ref a) (.gl a)
 |bi (id:String):Rel V h (.builtin id) (.bi id)
 |ty (n:String):Rel V h (.type n) (.ty n)
 |tup {a:LP}{vs:List LD}{n:Nat}{xs:List O}:¬V.T a->h.get? a=Y { cls:=.type "tuple",data:=.seq vs.toArray n}->bh V h vs xs->Rel V h (.ref a) (.tup xs)
 |lst {a:LP}{vs:List LD}{n:Nat}{xs:List O}:¬V.T a->h.get? a=Y { cls:=.type "list",data:=.seq vs.toArray n}->bh V h vs xs->Rel V h (.ref a) (.lst xs)
 |obj {a d C:LP}{es:List QA}{n:Nat}{fs:List (Str×O)}:¬V.T a->¬V.T d->h.get? a=Y (ajN C d)->h.get? d=Y (aaR es n)->cD V h es fs->Rel V h (.ref a) (.obj C fs)
 |exc {a d C:LP}{oe:Obj}{es:List QA}{n:Nat}{fs:List (Str×O)}:¬V.T a->¬V.T d->h.get? a=Y oe->oe.cls = .ref C->amP oe=W->oe.dict=Y d->h.get? d=Y (aaR es n)->cD V h es fs->Rel V h (.ref a) (.exc C fs)
inductive bh (V:Vw) (h:VG):List LD->List O->Prop
 |nil:bh V h [] []
 |cons {v:LD}{vs:List LD}{x:O}{xs:List O}:Rel V h v x->bh V h vs xs->bh V h (v::vs) (x::xs)
inductive cD (V:Vw) (h:VG):List QA->List (Str×O)->Prop
 |nil:cD V h [] []
 |cons {hs:Int}{n:Str}{t:Tok}{v:LD}{es:List QA}{x:O}{fs:List (Str×O)}:Rel V h v x->cD V h es fs->cD V h (⟨hs,.str n t,v⟩::es) ((n,x)::fs)
end
def Xi(V:Vw)(h:VG)(P:LD->Prop):O->Prop
 | .none=>P .none
 | .bool b=>P (.bool b)
 | .int i=>∀t,P (.int i t)
 | .str x=>∀t,P (.str x t)
 | .ref k=>k < V.N->P (.ref (V.μ k))
 | .gl a=>P (.ref a)
 | .bi id=>P (.builtin id)
 | .ty n=>P (.type n)
 | .tup xs=>∀a vs n,¬V.T a->h.get? a=Y { cls:=.type "tuple",data:=.seq vs.toArray n}->bh V h vs xs->P (.ref a)
 | .lst xs=>∀a vs n,¬V.T a->h.get? a=Y { cls:=.type "list",data:=.seq vs.toArray n}->bh V h vs xs->P (.ref a)
 | .obj C fs=>∀a d es n,¬V.T a->¬V.T d->h.get? a=Y (ajN C d)->h.get? d=Y (aaR es n)->cD V h es fs->P (.ref a)
 | .exc C fs=>∀a d e es n,¬V.T a->¬V.T d->h.get? a=Y e->e.cls = .ref C->amP e=W->e.dict=Y d->h.get? d=Y (aaR es n)->cD V h es fs->P (.ref a)
def Xj(V:Vw)(h:VG)(P:List LD->Prop):List O->Prop
 | []=>P []
 |x::xs=>∀v vs,Rel V h v x->bh V h vs xs->P (v::vs)
section
variable{V:Vw}{h:VG}{v:LD}{P:LD->Prop}{vs:List LD}{Q:List LD->Prop}
@[elab_as_elim] theorem Rel.inv{x:O}(r:Rel V h v x):Xi V h P x->P v:=by
 cases r<;>intro k<;>first|exact k|exact k _|exact k (by assumption)|exact k _ _ _ (by assumption) (by assumption) (by assumption)|exact k _ _ _ _ (by assumption) (by assumption) (by assumption) (by assumption) (by assumption)|exact k _ _ _ _ _ (by assumption) (by assumption) (by assumption) (by assumption) (by assumption) (by assumption) (by assumption) (by assumption)
@[elab_as_elim] theorem bh.inv{xs:List O}(r:bh V h vs xs):Xj V h Q xs->Q vs:=by
 cases r<;>intro k<;>first|exact k|exact k _ _ (by assumption) (by assumption)
@[elab_as_elim] theorem Rel.CH(r:Rel V h v .none)(k:P .none):P v:=r.inv k
@[elab_as_elim] theorem Rel.Zu{b:Bool}(r:Rel V h v (.bool b))(k:P (.bool b)):P v:=r.inv k
@[elab_as_elim] theorem Rel.fz{i:Int}(r:Rel V h v (.int i))(k:∀t,P (.int i t)):P v:=r.inv k
@[elab_as_elim] theorem Rel.jG{x:Str}(r:Rel V h v (.str x))(k:∀t,P (.str x t)):P v:=r.inv k
@[elab_as_elim] theorem Rel.jo{i:Nat}(r:Rel V h v (.ref i))(k:i < V.N->P (.ref (V.μ i))):P v:=r.inv k
@[elab_as_elim] theorem Rel.yJ{a:LP}(r:Rel V h v (.gl a))(k:P (.ref a)):P v:=r.inv k
@[elab_as_elim] theorem Rel.Uc{n:String}(r:Rel V h v (.ty n))(k:P (.type n)):P v:=r.inv k
@[elab_as_elim] theorem Rel.tupK{xs:List O}(r:Rel V h v (.tup xs))(k:∀a vs n,¬V.T a->h.get? a=Y { cls:=.type "tuple",data:=.seq vs.toArray n}->bh V h vs xs->P (.ref a)):P v:=r.inv k
@[elab_as_elim] theorem Rel.lstK{xs:List O}(r:Rel V h v (.lst xs))(k:∀a vs n,¬V.T a->h.get? a=Y { cls:=.type "list",data:=.seq vs.toArray n}->bh V h vs xs->P (.ref a)):P v:=r.inv k
@[elab_as_elim] theorem Rel.Iz{C:LP}{fs:List (Str×O)}(r:Rel V h v (.obj C fs))(k:∀a d es n,¬V.T a->¬V.T d->h.get? a=Y (ajN C d)->h.get? d=Y (aaR es n)->cD V h es fs->P (.ref a)):P v:=r.inv k
theorem Rel.int_inv{i:Int}(r:Rel V h v (.int i)):∃t,v = .int i t:=by refine r.fz λt=>?_;exact⟨t,rfl⟩
theorem Rel.str_inv{x:Str}(r:Rel V h v (.str x)):∃t,v = .str x t:=by refine r.jG λt=>?_;exact⟨t,rfl⟩
theorem Rel.nR{k:Nat}(r:Rel V h v (.ref k)):v = .ref (V.μ k)/\k < V.N:=by refine r.jo λlt=>?_;exact⟨rfl,lt⟩
theorem Rel.BQ{a:LP}(r:Rel V h v (.gl a)):v = .ref a:=by refine r.yJ ?_;rfl
theorem Rel.Jv{n:String}(r:Rel V h v (.ty n)):v = .type n:=by refine r.Uc ?_;rfl
theorem Rel.none_inv(r:Rel V h v .none):v = .none:=by refine r.CH ?_;rfl
theorem Rel.lst_inv{xs:List O}(r:Rel V h v (.lst xs)):∃a vs n,v = .ref a/\¬V.T a/\h.get? a=Y { cls:=.type "list",data:=.seq vs.toArray n}/\bh V h vs xs:=by refine r.lstK λa vs n t g l=>?_;exact⟨a,vs,n,rfl,t,g,l⟩
theorem bh.cons_inv{x:O}{xs:List O}(r:bh V h vs (x::xs)):∃v us,vs=v::us/\Rel V h v x/\bh V h us xs:=by refine r.inv λv us a b=>?_;exact⟨v,us,rfl,a,b⟩
theorem Rel.Jp{xs:List O}(r:Rel V h v (.tup xs)):∃a vs n,v = .ref a/\¬V.T a/\h.get? a=Y { cls:=.type "tuple",data:=.seq vs.toArray n}/\bh V h vs xs:=by refine r.tupK λa vs n t g l=>?_;exact⟨a,vs,n,rfl,t,g,l⟩
theorem Rel.aba{C:LP}{fs:List (Str×O)}(r:Rel V h v (.exc C fs)):∃a d b es n,v = .ref a/\¬V.T a/\¬V.T d/\h.get? a=Y b/\b.cls = .ref C/\amP b=W/\b.dict=Y d/\h.get? d=Y (aaR es n)/\cD V h es fs :=r.inv (P:=λv=>∃a d b es n,v = .ref a/\¬V.T a/\¬V.T d/\h.get? a=Y b/\b.cls = .ref C/\amP b=W/\b.dict=Y d/\h.get? d=Y (aaR es n)/\cD V h es fs) λa d b es n h1 e f h4 i j l m=>⟨a,d,b,es,n,rfl,h1,e,f,h4,i,j,l,m⟩
@[elab_as_elim] theorem bh.Q8(r:bh V h vs [])(k:Q []):Q vs:=r.inv k
@[elab_as_elim] theorem bh.A5{x:O}{xs:List O}(r:bh V h vs (x::xs))(k:∀v us,Rel V h v x->bh V h us xs->Q (v::us)):Q vs:=r.inv k
@[elab_as_elim] theorem bh.wQ{x:O}(r:bh V h vs [x])(k:∀v,Rel V h v x->Q [v]):Q vs:=r.A5 λv us a b=>b.Q8 (Q:=λus=>Q (v::us)) (k v a)
@[elab_as_elim] theorem bh.xw{x y:O}(r:bh V h vs [x,y])(k:∀v w,Rel V h v x->Rel V h w y->Q [v,w]):Q vs:=r.A5 λv us a b=>b.wQ (Q:=λus=>Q (v::us)) λw b=>k v w a b
theorem bh.s8{x:O}(r:bh V h vs [x]):∃v,vs=[v]/\Rel V h v x:=by refine r.wQ λv a=>?_;exact⟨v,rfl,a⟩
theorem bh.Jt{x y:O}(r:bh V h vs [x,y]):∃v w,vs=[v,w]/\Rel V h v x/\Rel V h w y:=by refine r.xw λv w a b=>?_;exact⟨v,w,rfl,a,b⟩
end
def Xh(V:Vw)(h:VG)(P:List QA->Prop):List (Str×O)->Prop
 | []=>P []
 |q::fs=>∀a t v es,Rel V h v q.2->cD V h es fs->P (⟨a,.str q.1 t,v⟩::es)
@[elab_as_elim] theorem cD.inv{V:Vw}{h:VG}{es:List QA}{P:List QA->Prop}{fs:List (Str×O)}(r:cD V h es fs):Xh V h P fs->P es:=by
 cases r<;>intro k<;>first|exact k|exact k _ _ _ _ (by assumption) (by assumption)
theorem bh.ind{V:Vw}{h:VG}{P:List LD->List O->Prop}(e:P [] [])(h1:∀{v vs x xs},Rel V h v x->bh V h vs xs->P vs xs->P (v::vs) (x::xs)):∀{xs:List O}{vs:List LD},bh V h vs xs->P vs xs:=by
 intro xs;induction xs with
 |nil =>
  exact@λ_ r=>r.inv (Q:=λvs=>P vs []) e
 |cons x xs f =>
  exact@λ_ r=>r.inv (Q:=λvs=>P vs (x::xs)) λ_ _ a b=>h1 a b (f b)
theorem cD.ind{V:Vw}{h:VG}{P:List QA->List (Str×O)->Prop}(e:P [] [])(h1:∀{f n t v es x fs},Rel V h v x->cD V h es fs->P es fs->P (⟨f,.str n t,v⟩::es) ((n,x)::fs)):∀{fs:List (Str×O)}{es:List QA},cD V h es fs->P es fs:=by
 intro fs;induction fs with
 |nil =>
  exact@λ_ r=>r.inv (P:=λes=>P es []) e
 |cons q fs i =>
  exact@λ_ r=>r.inv (P:=λes=>P es (q::fs)) λ_ _ _ _ a b=>h1 a b (i b)
def gY(o:Obj):Prop:=∀vs,o.data ≠ .fields vs
def Rv(o:Obj):Prop:=gY o∨∃C,o.cls = .ref C
def DN(o a:Obj):Prop:=a.dict=o.dict/\(amP o=W->amP a=W)
theorem DN.trans{o a o2:Obj}(x:DN o a)(y:DN a o2):DN o o2:=⟨y.1.trans x.1,λz=>y.2 (x.2 z)⟩
theorem DN.refl{o:Obj}:DN o o:=⟨Eq.refl _,id⟩
def DB(o a:Obj):Prop:=(gY o->a=o)/\∀C,o.cls = .ref C->a.cls = .ref C/\DN o a
theorem DB.rfl{o:Obj}:DB o o:=⟨λ_=>Eq.refl _,λ_ e=>⟨e,.refl⟩⟩
structure Go (V:Vw) (h:VG) (V':Vw) (h':VG):Prop where
 n:V.N<=V'.N
 mu:∀k,k < V.N->V'.μ k=V.μ k
 un:∀b o,h.get? b=Y o->¬V.T b->¬V'.T b
 keep:∀b o,h.get? b=Y o->¬V.T b->Rv o->∃o',h'.get? b=Y o'/\DB o o'
theorem sW{o:Obj}{xs:Array LD}{n:Nat}(d:o.data = .seq xs n):gY o:=λvs q=>by rw[d]at q;cases q
section
variable{V V':Vw}{h h':VG}
theorem Go.same(G:Go V h V' h'){b:LP}{o:Obj}(t:¬V.T b)(e:h.get? b=Y o)(f:gY o):¬V'.T b/\h'.get? b=Y o:=by
 refine jU (G.keep b o e t (.inl f)) λa e' w _=>?_;rw[w f]at e';exact⟨G.un b o e t,e'⟩
theorem Rel.go(G:Go V h V' h'){v:LD}{x:O}(r:Rel V h v x):Rel V' h' v x :=
 Rel.rec (motive_1:=λv x _=>Rel V' h' v x) (motive_2:=λvs xs _=>bh V' h' vs xs) (motive_3:=λes fs _=>cD V' h' es fs)
  .none .bool .int .str (λk=>by rw[←G.mu _ k];exact .ref (LR k G.n)) .gl .bi .ty
  (λs e _ i=>.tup (G.same s e (sW rfl)).1 (G.same s e (sW rfl)).2 i) (λs e _ i=>.lst (G.same s e (sW rfl)).1 (G.same s e (sW rfl)).2 i)
  (λs f e l _ i=>.obj (G.same s e λ_ q=>nomatch q).1 (G.same f l λ_ q=>nomatch q).1 (G.same s e λ_ q=>nomatch q).2 (G.same f l λ_ q=>nomatch q).2 i)
  (λs f e j m l e2 _ i=>(G.keep _ _ e s (.inr ⟨_,j⟩)).elim λ_ z=>.exc (G.un _ _ e s) (G.same f e2 λ_ q=>nomatch q).1 z.1 (z.2.2 _ j).1 ((z.2.2 _ j).2.2 m) ((z.2.2 _ j).2.1.trans l) (G.same f e2 λ_ q=>nomatch q).2 i)
  .nil (λ_ _ a b=>.cons a b) .nil (λ_ _ a b=>.cons a b) r
theorem bh.go(G:Go V h V' h'){vs:List LD}{xs:List O}(r:bh V h vs xs):bh V' h' vs xs:=r.ind .nil λa _ i=>.cons (a.go G) i
theorem cD.go(G:Go V h V' h'){es:List QA}{fs:List (Str×O)}(r:cD V h es fs):cD V' h' es fs:=r.ind .nil λa _ i=>.cons (a.go G) i
theorem Go.refl:Go V h V h:=⟨LL _,λ_ _=>rfl,λ_ _ _ t=>t,λb o e _ _=>⟨o,e,.rfl⟩⟩
theorem Go.stays(k:h.StaysIn h'):Go V h V h':=⟨LL _,λ_ _=>rfl,λ_ _ _ t=>t,λb o e _ _=>⟨o,k b o e,.rfl⟩⟩
theorem bh.length{vs:List LD}{xs:List O}(r:bh V h vs xs):vs.length=xs.length:=r.ind (P:=λvs xs=>vs.length=xs.length) rfl λ_ _ i=>congrArg (· + 1) i
theorem bh.append{vs:List LD}{xs:List O}{ws:List LD}{ys:List O}(r:bh V h vs xs)(k:bh V h ws ys):bh V h (vs++ws) (xs++ys):=r.ind (P:=λvs xs=>bh V h (vs++ws) (xs++ys)) k λa _ i=>.cons a i
theorem bh.get{vs:List LD}{xs:List O}(r:bh V h vs xs):∀{k:Nat}{x:O},xs[k]?=Y x->∃v,vs[k]?=Y v/\Rel V h v x:=λ{k x}=>r.ind (P:=λvs xs=>∀k,xs[k]?=Y x->∃v,vs[k]?=Y v/\Rel V h v x) (λk e=>by rw[List.getElem?_nil]at e;cases e)
 (λa _ i k=>alK k (λe=>⟨_,rfl,LC e▸a⟩) λk e=>i k e) k
theorem bh.drop{vs:List LD}{xs:List O}(k:Nat)(r:bh V h vs xs):bh V h (vs.drop k) (xs.drop k):=r.ind (P:=λvs xs=>∀k,bh V h (vs.drop k) (xs.drop k)) (λk=>by rw[alP,alP];exact .nil)
 (λa b i k=>alK k (.cons a b) i) k
theorem bh.take{vs:List LD}{xs:List O}(k:Nat)(r:bh V h vs xs):bh V h (vs.take k) (xs.take k):=r.ind (P:=λvs xs=>∀k,bh V h (vs.take k) (xs.take k)) (λk=>by rw[apd,apd];exact .nil)
 (λa b i k=>alK k .nil λk=>.cons a (i k)) k
theorem bh.dropLast{vs:List LD}{xs:List O}(r:bh V h vs xs):bh V h vs.dropLast xs.dropLast:=by
 rw[amQ,amQ,r.length];exact r.take _
theorem Oh(nm n:Str)(a:Int)(t:Tok)(v:LD)(es:List QA):alb nm (⟨a,.str n t,v⟩::es)=if n == nm then Y (Y v) else alb nm es:=by
 unfold alb;cases q:n == nm with
 |true =>
  rw[amG (p:=λx:QA=>x.key.isStr nm) (by exact q)];rfl
 |false =>
  rw[amH (p:=λx:QA=>x.key.isStr nm) (by show ¬(n == nm)=W;rw[q];decide)];have r:(DictEntry.mk a (.str n t) v::es).any (·.refKey)=es.any (·.refKey):=by rw[ajX];rfl
  rw[r];rfl
theorem cD.find(nm:Str){es:List QA}{fs:List (Str×O)}(r:cD V h es fs){x:O}:fs.lookup nm=Y x->∃v,alb nm es=Y (Y v)/\Rel V h v x :=
 r.ind (P:=λes fs=>fs.lookup nm=Y x->∃v,alb nm es=Y (Y v)/\Rel V h v x) (λe=>nomatch e) λ{b n t v es y fs} a _ i e=>by
  rw[Oh];by_cases q:nm=n
  .subst q;rw[amR]at e;exact⟨v,VD (abk _),LC e▸a⟩
  .rw[VC,VF.mpr q]at e;rw[VF.mpr (aaU q)];exact i e
theorem cD.miss(nm:Str){es:List QA}{fs:List (Str×O)}(r:cD V h es fs):fs.lookup nm=LA->alb nm es=Y LA :=
 r.ind (P:=λes fs=>fs.lookup nm=LA->alb nm es=Y LA) (λ_=>rfl) λ{b n t v es y fs} a _ i e=>by
  rw[Oh];by_cases q:nm=n
  .subst q;rw[amR]at e;cases e
  .rw[VC,VF.mpr q]at e;rw[VF.mpr (aaU q)];exact i e
theorem cD.length{es:List QA}{fs:List (Str×O)}(r:cD V h es fs):es.length=fs.length:=r.ind (P:=λes fs=>es.length=fs.length) rfl λ_ _ i=>congrArg (· + 1) i
end
end
structure GC where
 prog:ajI
 w:ac9
 base:VG
 os:abh
 K:aeb
 KX:K.In base
 q:ajI
 loose:List Str
 mg:Str->Option LD
 mb:Str->Option LD
 top:TopRead q loose mg mb base
 mods:base.get? agK≠LA
 quiet:Bool
noncomputable def Sg.V(g:Sg)(pv:LP->Prop):Vw:=⟨g.μ,g.H.length,λa=>g.σ a≠LA∨pv a⟩
noncomputable abbrev gj(C:LP)(a:Option LP)(t:LP):Obj:={cls:=.ref C,dict:=a,data:=.fields #[.ref t,.none,.none,.none,.bool LB,.none]}
def xG(g:Sg)(V:Vw)(h:VG)(k:Nat)(fs:List (Str×O)):Option LP->Prop
 |none=>fs=[]
 |some d=>g.σ d=Y (k,W)/\∃(es:List QA) (n:Nat),h.get? d=Y (aaR es n)/\cD V h es fs
def Ok(P:WD)(g:Sg)(V:Vw)(h:VG)(k:Nat):MO->Prop
 | .lst xs=>g.σ (g.μ k)=Y (k,LB)/\∃(vs:List LD) (n:Nat),h.get? (g.μ k)=Y { cls:=.type "list",data:=.seq vs.toArray n}/\bh V h vs xs
 | .bD fs=>g.σ (g.μ k)=Y (k,LB)/\∃(es:List QA) (n:Nat),h.get? (g.μ k)=Y (aaR es n)/\cD V h es fs/\KeysLit P es/\(fs.map (·.1)).Nodup
 | .inst C fs=>g.σ (g.μ k)=Y (k,LB)/\∃(d:LP) (es:List QA) (n:Nat),g.σ d=Y (k,W)/\h.get? (g.μ k)=Y (ajN C d)/\h.get? d=Y (aaR es n)/\cD V h es fs
 | .exc C fs=>g.σ (g.μ k)=Y (k,LB)/\∃(t:LP) (a:Option LP),h.get? (g.μ k)=Y (gj C a t)/\xG g V h k fs a
 | .dead=>True
structure Rg (c:GC) (n:Nat) (pv:LP->Prop) (fr:List Env) (A:adh) (σ:Sg) (s:LG):Prop where
 stays:c.base.StaysIn s.heap
 frames:s.heap.FunFrames c.base fr
 stack:A.frames=Y fr
 hand:c.quiet=W->A.handled=LA
 depth:A.depth+3 * n<=950
 units:A.units+30 * n<=9000
 fJ:∀env∈fr,∀L,env.frame=Y L->pv L
 dg:∀a,pv a->σ.σ a=LA/\c.base.get? a=LA/\∃o,s.heap.get? a=Y o/\gY o
 objs:∀k m,σ.H[k]?=Y m->Ok c.w.params σ (σ.V pv) s.heap k m
 own:∀a,σ.σ a≠LA->c.base.get? a=LA/\∃o,s.heap.get? a=Y o
 gens:s.gens = #[]
 os:s.os=c.os
def tQ(b:Prop)(o a:Obj):Prop:=(gY o->a.data=o.data/\(b->a=o))/\∀C,o.cls = .ref C->a.cls = .ref C/\DN o a
def iO(o:Obj):Prop:=(∃vs,o.data = .fields vs)/\∃T,o.cls = .type T/\T ≠ "traceback"
def Kp(e:Prop)(h':VG)(b:LP)(o:Obj):Prop:=(Rv o->∃a,h'.get? b=Y a/\tQ e o a)/\(iO o->h'.get? b=Y o)/\∃a,h'.get? b=Y a
theorem Kp.same(e:h'.get? b=Y o):Kp np h' b o:=⟨λ_=>⟨o,e,λ_=>⟨rfl,λ_=>rfl⟩,λ_ q=>⟨q,.refl⟩⟩,λ_=>e,o,e⟩
theorem gY.of(h:gY o)(e:o'.data=o.data):gY o':=λvs q=>h vs (e▸q)
theorem tQ.rv(s:tQ np o o')(r:Rv o):Rv o':=r.elim (λf=>.inl (f.of (s.1 f).1)) λa=>LJ a λC e=>.inr ⟨C,(s.2 C e).1⟩
theorem tQ.trans(x:tQ np o o1)(y:tQ np o1 o2):tQ np o o2 :=⟨λf=>⟨(y.1 (f.of (x.1 f).1)).1.trans (x.1 f).1,λq=>((y.1 (f.of (x.1 f).1)).2 q).trans ((x.1 f).2 q)⟩,λC e=>⟨(y.2 C (x.2 C e).1).1,(x.2 C e).2.trans (y.2 C (x.2 C e).1).2⟩⟩
structure aJ (P pv:LP->Prop) (g:Sg) (h:VG) (g':Sg) (h':VG):Prop where
 n:g.H.length<=g'.H.length
 mu:∀k,k < g.H.length->g'.μ k=g.μ k
 keep:∀b o,h.get? b=Y o->¬P b->g.σ b=LA->g'.σ b=LA/\Kp (¬pv b) h' b o
theorem aJ.refl{P pv:LP->Prop}:aJ P pv g h g h:=⟨LL _,λ_ _=>rfl,λb o e _ s=>⟨s,.same e⟩⟩
theorem aJ.trans{P pv:LP->Prop}(x:aJ P pv σ h aio ait)(y:aJ P pv aio ait aip aiy):aJ P pv σ h aip aiy:=by
 refine⟨LI x.n y.n,λk j=>(y.mu k (LR j x.n)).trans (x.mu k j),λb o e p s=>?_⟩;refine wZ (x.keep b o e p s) λs1 z w f a=>?_;refine i4 (y.keep b f a p s1) λC _ _ m=>?_;refine⟨C,λr=>?_,λi=>(y.keep b o (w i) p s1).2.2.1 i,m⟩;refine aM (z r) λA e1 l=>?_;refine fS (y.keep b A e1 p s1) λ_ k2 _=>?_;refine aM (k2 (l.rv r)) λB e2 D=>?_;exact⟨B,e2,l.trans D⟩
theorem aJ.weak{P a pv:LP->Prop}(x:aJ P pv σ h ain h')(k:∀b,P b->a b):aJ a pv σ h ain h' :=⟨x.n,x.mu,λb o e p=>x.keep b o e λq=>p (k b q)⟩
theorem aJ.go{P pv:LP->Prop}(S:aJ P pv σ h ain h')(j:∀b,P b->pv b):Go (σ.V pv) h (ain.V pv) h' :=
 ⟨S.n,S.mu,λb o e t=>by
  have s1:σ.σ b=LA:=aj1 λq=>t (.inl q);have i:¬pv b:=λq=>t (.inr q);refine bg (S.keep b o e (λq=>i (j b q)) s1) λa _=>?_
  exactλq=>q.elim (λz=>z a) i,λb o e t=>by
  have s1:σ.σ b=LA:=aj1 λq=>t (.inl q);have i:¬pv b:=λq=>t (.inr q);refine fS (S.keep b o e (λq=>i (j b q)) s1) λ_ k _=>?_
  exactλr=>aM (k r) λl e' w=>⟨l,e',λf=>(w.1 f).2 i,w.2⟩⟩
theorem Rel.step{P pv:LP->Prop}(r:Rel (σ.V pv) h v x)(S:aJ P pv σ h ain h')(a:∀b,P b->pv b):Rel (ain.V pv) h' v x:=r.go (S.go a)
theorem bh.step{P pv:LP->Prop}(r:bh (σ.V pv) h v x)(S:aJ P pv σ h ain h')(a:∀b,P b->pv b):bh (ain.V pv) h' v x:=r.go (S.go a)
theorem cD.step{P pv:LP->Prop}(r:cD (σ.V pv) h v x)(S:aJ P pv σ h ain h')(a:∀b,P b->pv b):cD (ain.V pv) h' v x:=r.go (S.go a)
structure Fc where
 A:adh
 env:Env
 fr:List Env
 n:Nat
 pv:LP->Prop
noncomputable def Fc.fl(f:Fc):LD:=match f.env.frame with|some L=>rawInt L|none=>.none
def Fc.P(f:Fc):LP->Prop:=λb=>b=f.env.locals∨b∈f.env.cells.map (·.2)
def fD(env:Env)(h:VG)(x:Str)(v:LD):Prop:=match env.kindOf x with
 |some .local=>∃m,h.Ns env.locals m/\m x=Y v
 |some .cell=>∃a,env.cells.lookup x=Y a/\h.IsCell a (Y v)
 |some .free=>∃a,env.cells.lookup x=Y a/\h.IsCell a (Y v)
 |_=>False
abbrev Lc:=List (Str×O)
structure R (c:GC) (f:Fc) (l:Lc) (σ:Sg) (s:LG):Prop where
 g:Rg c f.n f.pv f.fr f.A σ s
 ns:∃m,s.heap.Ns f.env.locals m
 vars:∀x y,l.lookup x=Y y->∃v,fD f.env s.heap x v/\Rel (σ.V f.pv) s.heap v y
 iS:∀b∈f.env.cells.map (·.2),∃v,s.heap.IsCell b v
 own:∀b,f.P b->f.pv b
 nd:(f.env.locals::f.env.cells.map (·.2)).Nodup
 kind:f.env.scope.kind = .function
 glob:f.env.globals=ajp
 lW:f.env.builtins=al2
 top:∃e0 fr' L,f.fr=e0::fr'/\e0.frame=Y L/\f.env.frame=Y L
structure XV where
 C:LP
 fs:List (Str×O)
def fV(a:VG)(e:LP)(cls fl:LD)(h:VG):Prop :=∃f vs T b ts,h.get? e=Y f/\f.cls=cls/\f.data = .fields vs/\vs[1]?=Y (.ref T)/\a.get? T=LA/\T≠e/\h.get? T=Y b/\b.cls = .type "traceback" /\ b.data = .fields ts/\ts[3]?=Y fl
inductive dZ (c:GC) (fl:LD) (V:Vw) (h:VG) (e:LD) (x:XV):Prop
 |mk (a d:LP) (oe:Obj) (vs:Array LD) (es:List QA) (n:Nat) (ea:e = .ref a) (e1:h.get? a=Y oe) (e2:oe.cls = .ref x.C) (e3:oe.dict=Y d) (e4:oe.data = .fields vs) (e5:c.base.get? a=LA)
  (e6:h.get? d=Y (aaR es n)) (e7:¬V.T a) (e8:¬V.T d) (e9:cD V h es x.fs)
  (e10:vs[1]?=Y .none∨fV c.base a (.ref x.C) .none h∨fV c.base a (.ref x.C) fl h)
theorem dZ.el{c:GC}{fl:LD}{V:Vw}{h:VG}{a:LP}{x:XV}{G:Prop}(T:dZ c fl V h (.ref a) x)(k:∀d b vs es n,h.get? a=Y b->b.cls = .ref x.C->b.dict=Y d->b.data = .fields vs->c.base.get? a=LA -> h.get? d=Y (aaR es n)->¬V.T a->¬V.T d->cD V h es x.fs->(vs[1]?=Y .none∨fV c.base a (.ref x.C) .none h∨fV c.base a (.ref x.C) fl h)->G):G:=by
 induction T with
 |mk a d b vs es n q e1 e2 f i j l m p w e=>have y:=ajL q;clear q;subst y;exact k d b vs es n e1 e2 f i j l m p w e
abbrev QV:=O->Sg->Prop
abbrev QX:=XV->Sg->Prop
inductive qX (c:GC) (f:Fc) (l:Lc) (σ:Sg) (h₀:VG) (Q:QV) (v:LD) (s':LG):Prop
 |mk (x:O) (ain:Sg) (r:Rel (ain.V f.pv) s'.heap v x) (R':R c f l ain s') (S:aJ f.P f.pv σ h₀ ain s'.heap) (q:Q x ain)
abbrev jv(c:GC)(f:Fc)(l:Lc)(σ:Sg)(s:LG)(Q:QV):=qX c f l σ s.heap Q
inductive gJ (c:GC) (f:Fc) (σ:Sg) (h₀:VG) (X:Lc->QX) (e:LD) (s':LG):Prop
 |mk (x:XV) (l':Lc) (ain:Sg) (T:dZ c f.fl (ain.V f.pv) s'.heap e x) (R':R c f l' ain s') (S:aJ f.P f.pv σ h₀ ain s'.heap) (q:X l' x ain)
abbrev dH(c:GC)(f:Fc)(σ:Sg)(s:LG)(X:Lc->QX):=gJ c f σ s.heap X
inductive Az (c:GC) (f:Fc) (σ:Sg) (h₀:VG) (Q:Lc->Sg->Prop) (s':LG):Prop
 |mk (l':Lc) (ain:Sg) (R':R c f l' ain s') (S:aJ f.P f.pv σ h₀ ain s'.heap) (q:Q l' ain)
abbrev J9(c:GC)(f:Fc)(σ:Sg)(s:LG)(Q:Lc->Sg->Prop):=Az c f σ s.heap Q
inductive J8 (c:GC) (f:Fc) (l:Lc) (σ:Sg) (h₀:VG) (Q:Sg->Prop) (s':LG):Prop
 |mk (ain:Sg) (R':R c f l ain s') (S:aJ f.P f.pv σ h₀ ain s'.heap) (q:Q ain)
abbrev J7(c:GC)(f:Fc)(l:Lc)(σ:Sg)(s:LG)(Q:Sg->Prop):=J8 c f l σ s.heap Q
def j4(c:GC)(f:Fc)(t:Sem LD)(l:Lc)(σ:Sg)(Q:QV)(X:QX):Prop :=∀s,R c f l σ s->wpAny (LS c.prog c.w) f.A t (jv c f l σ s Q) (dH c f σ s λl' x a=>l'=l/\X x a) s
abbrev bF(c:GC)(f:Fc)(e:LF)(l:Lc)(σ:Sg)(Q:QV)(X:QX):Prop:=j4 c f (eval e f.env) l σ Q X
inductive Fl where
 |next|brk|ret (v:O)
def ll(V:Vw)(h:VG):am7->Fl->Prop
 | .next,.next=>True
 | .brk,.brk=>True
 | .ret v,.ret x=>Rel V h v x
 |_,_=>False
inductive Ay (c:GC) (f:Fc) (σ:Sg) (h₀:VG) (Q:Fl->Lc->Sg->Prop) (fl:am7) (s':LG):Prop
 |mk (k:Fl) (l':Lc) (ain:Sg) (r:ll (ain.V f.pv) s'.heap fl k) (R':R c f l' ain s') (S:aJ f.P f.pv σ h₀ ain s'.heap) (q:Q k l' ain)
abbrev J5(c:GC)(f:Fc)(σ:Sg)(s:LG)(Q:Fl->Lc->Sg->Prop):=Ay c f σ s.heap Q
theorem vE{P:Fl->Prop}(next:P .next)(brk:P .brk)(ret:∀v,P (.ret v))(t:Fl):P t:=Fl.casesOn t next brk ret
theorem ll.nx(r:ll V h fl .next):fl = .next:=by cases fl<;>first|rfl|exact r.elim
theorem ll.bk(r:ll V h fl .brk):fl = .brk:=by cases fl<;>first|rfl|exact r.elim
theorem ll.rt(r:ll V h fl (.ret x)):∃v,fl = .ret v/\Rel V h v x:=by cases fl<;>first|exact⟨_,rfl,r⟩|exact r.elim
def d6(c:GC)(f:Fc)(t:Sem am7)(l:Lc)(σ:Sg)(Q:Fl->Lc->Sg->Prop)(X:Lc->QX):Prop :=∀s,R c f l σ s->wpAny (LS c.prog c.w) f.A t (J5 c f σ s Q) (dH c f σ s X) s
def Ax(c:GC)(n:Nat)(pv:LP->Prop)(fr:List Env)(A:adh)(σ:Sg)(s:LG)(Q:QV)(X:QX):akG->LG->Prop
 | .ok (.ret v),s'=>∃x a,Rel (a.V pv) s'.heap v x/\Rg c n pv fr A a s'/\aJ (λ_=>False) pv σ s.heap a s'.heap/\Q x a
 | .ok _,_=>False
 | .error e,s'=>∃x a,dZ c .none (a.V pv) s'.heap e x/\Rg c n pv fr A a s'/\aJ (λ_=>False) pv σ s.heap a s'.heap/\X x a
def j0(c:GC)(n:Nat)(fv:LD)(b:List O)(σ:Sg)(Q:QV)(X:QX):Prop :=∀(pv:LP->Prop) (fr:List Env) (A:adh) (s:LG) (a:List LD),Rg c n pv fr A σ s->bh (σ.V pv) s.heap a b -> ajz (LS c.prog c.w) A (.call fv ⟨a,[]⟩) (Ax c n pv fr A σ s Q X) s
theorem qX.elim{c:GC}{f:Fc}{l:Lc}{σ:Sg}{b:VG}{Q:QV}{v:LD}{s':LG}{P:Prop}(h:qX c f l σ b Q v s')(k:∀x a,Rel (a.V f.pv) s'.heap v x->R c f l a s'->aJ f.P f.pv σ b a s'.heap->Q x a->P):P:=by
 cases h;exact k _ _ (by assumption) (by assumption) (by assumption) (by assumption)
theorem gJ.elim{c:GC}{f:Fc}{σ:Sg}{b:VG}{X:Lc->QX}{e:LD}{s':LG}{P:Prop}(h:gJ c f σ b X e s')(k:∀x l' a,dZ c f.fl (a.V f.pv) s'.heap e x->R c f l' a s'->aJ f.P f.pv σ b a s'.heap->X l' x a->P):P:=by
 cases h;exact k _ _ _ (by assumption) (by assumption) (by assumption) (by assumption)
theorem Az.elim{c:GC}{f:Fc}{σ:Sg}{a:VG}{Q:Lc->Sg->Prop}{s':LG}{P:Prop}(h:Az c f σ a Q s')(k:∀l' b,R c f l' b s'->aJ f.P f.pv σ a b s'.heap->Q l' b->P):P:=by
 cases h;exact k _ _ (by assumption) (by assumption) (by assumption)
theorem Ay.elim{c:GC}{f:Fc}{σ:Sg}{b:VG}{Q:Fl->Lc->Sg->Prop}{fl:am7}{s':LG}{P:Prop}(h:Ay c f σ b Q fl s')(k:∀x l' a,ll (a.V f.pv) s'.heap fl x->R c f l' a s'->aJ f.P f.pv σ b a s'.heap->Q x l' a->P):P:=by
 cases h;exact k _ _ _ (by assumption) (by assumption) (by assumption) (by assumption)
section
variable{M:al3}{B:adh}{V:Type}{t:Sem V}{s:LG}{E E':LD->LG->Prop}{P:V->LG->Prop}
theorem QP{b f i:Type}{p q r u:V->LG->b->f->i->Prop}(h:wpAny M B t (λv s'=>∃x y z,p v s' x y z/\q v s' x y z/\r v s' x y z/\u v s' x y z) E s)(k:∀v s' x y z,p v s' x y z->q v s' x y z->r v s' x y z->u v s' x y z->P v s')(a:∀e s',E e s'->E' e s'):wpAny M B t P E' s :=VL h (λv s' q=>q.elim λx q=>q.elim λy q=>q.elim λz q=>k v s' x y z q.1 q.2.1 q.2.2.1 q.2.2.2) a
theorem H7{Q:Sg->Prop}(h:wpAny M B t (λ_ s'=>J8 c f l σ h₀ Q s') E s)(k:∀v s' i,R c f l i s'->aJ f.P f.pv σ h₀ i s'.heap->Q i->P v s')(j:∀e s',E e s'->E' e s'):wpAny M B t P E' s :=VL h (λv s' z=>by cases z with|mk i a b d=>exact k v s' i a b d) j
theorem wB{c:GC}{f:Fc}{σ:Sg}{j:VG}{Q:Lc->Sg->Prop}(h:wpAny M B t (λ_ s'=>Az c f σ j Q s') E s)(k:∀v s' l' i,R c f l' i s'->aJ f.P f.pv σ j i s'.heap->Q l' i->P v s')(l:∀e s',E e s'->E' e s'):wpAny M B t P E' s :=VL h (λv s' z=>z.elim λl' i a b d=>k v s' l' i a b d) l
theorem dc{c:GC}{f:Fc}{l:Lc}{σ:Sg}{j:VG}{Q:QV}{t:Sem LD}{P:LD->LG->Prop}(h:wpAny M B t (qX c f l σ j Q) E s)(k:∀v s' x i,Rel (i.V f.pv) s'.heap v x->R c f l i s'->aJ f.P f.pv σ j i s'.heap->Q x i->P v s')(m:∀e s',E e s'->E' e s'):wpAny M B t P E' s :=VL h (λv s' z=>z.elim λx i a b d e=>k v s' x i a b d e) m
theorem nG{c:GC}{f:Fc}{σ:Sg}{j:VG}{Q:Fl->Lc->Sg->Prop}{t:Sem am7}{P:am7->LG->Prop}(h:wpAny M B t (Ay c f σ j Q) E s)(k:∀v s' x l' i,ll (i.V f.pv) s'.heap v x->R c f l' i s'->aJ f.P f.pv σ j i s'.heap->Q x l' i->P v s')(l:∀e s',E e s'->E' e s'):wpAny M B t P E' s :=VL h (λv s' z=>z.elim λx l' i a b d e=>k v s' x l' i a b d e) l
end
section
variable{c:GC}{f:Fc}{l:Lc}{σ:Sg}{Q Q':QV}{X X':QX}
theorem j4.mono{t:Sem LD}(H:j4 c f t l σ Q X)(k:∀x h,Q x h->Q' x h)(j:∀x h,X x h->X' x h):j4 c f t l σ Q' X':=λs i => VL (H s i) (λv s' z=>z.elim λx h a b d e=>⟨x,h,a,b,d,k _ _ e⟩) λe s' z=>z.elim λx l' h a b d e=>⟨x,l',h,a,b,d,e.1,j _ _ e.2⟩
theorem Rg.tok{pv:LP->Prop}(h:Rg c n pv fr A σ s)(t:Nat):Rg c n pv fr A σ {s with toks:=t} :=⟨h.stays,h.frames,h.stack,h.hand,h.depth,h.units,h.fJ,h.dg,h.objs,h.own,h.gens,h.os⟩
theorem R.tok(h:R c f l σ s)(t:Nat):R c f l σ {s with toks:=t}:=⟨h.g.tok t,h.ns,h.vars,h.iS,h.own,h.nd,h.kind,h.glob,h.lW,h.top⟩
theorem fD.el{env:Env}{h:VG}{x:Str}{v:LD}{G:Prop}(k:fD env h x v)(b:env.kindOf x=Y .local->∀m,h.Ns env.locals m->m x=Y v->G)(k2:env.kindOf x=Y .cell->∀a,env.cells.lookup x=Y a->h.IsCell a (Y v)->G)(e:env.kindOf x=Y .free->∀a,env.cells.lookup x=Y a->h.IsCell a (Y v)->G):G:=by
 unfold fD at k;cases q:env.kindOf x with
 |none=>rw[q]at k;exact k.elim
 |some kd =>
  rw[q]at k;cases kd<;>first|exact aoE k|exact k.elim λm k=>b q m k.1 k.2|exact k.elim λm k=>k2 q m k.1 k.2|exact k.elim λm k=>e q m k.1 k.2
theorem fD.to{env:Env}{h h':VG}{x:Str}{v:LD}(k:fD env h x v)(l:∀m,h.Ns env.locals m->m x=Y v->∃m',h'.Ns env.locals m'/\m' x=Y v)(c:∀a,env.cells.lookup x=Y a->h.IsCell a (Y v)->h'.IsCell a (Y v)):fD env h' x v :=k.el (λq m a b=>by unfold fD;rw[q];exact l m a b) (λq a b d=>by unfold fD;rw[q];exact⟨a,b,c a b d⟩) λq a b d=>by unfold fD;rw[q];exact⟨a,b,c a b d⟩
theorem gJ.after{s j:LG}{i:Sg}{e:LD}{s':LG}{p:Lc->QX}(S:aJ f.P f.pv σ s.heap i j.heap)(h:dH c f i j p e s'):dH c f σ s p e s' :=h.elim λx l' m a b d e=>⟨x,l',m,a,b,S.trans d,e⟩
theorem qX.after{s j:LG}{i:Sg}{v:LD}{s':LG}(S:aJ f.P f.pv σ s.heap i j.heap)(h:jv c f l i j Q v s'):jv c f l σ s Q v s' :=h.elim λx m a b d e=>⟨x,m,a,b,S.trans d,e⟩
end
theorem frames_at{a h h':VG}{l:List Env}:(∀env∈l,∀L,env.frame=Y L->∀o,h.get? L=Y o->gY o->∃f,h'.get? L=Y f/\gY f)->h.FunFrames a l->h'.FunFrames a l:=by
 induction l with
 |nil=>exactλ_ _=>trivial
 |cons env rest A =>
  intro k z;refine fS z λp b y=>?_;refine vg b λL o i w x j=>?_;exact⟨p,(k env (.head _) L i o x j).elim λf q=>⟨L,f,i,w,q.1,q.2⟩,A (λe m=>k e (.tail _ m)) y⟩
section
variable{c:GC}{n:Nat}{P pv:LP->Prop}{fr:List Env}{A:adh}{σ ain:Sg}{s:LG}{h h':VG}
theorem BP(hb:h.objs.size<=b):h.get? b=LA:=by
 cases q:h.get? b with
 |none=>rfl
 |some o=>exact absurd (VQ q) (aj2.mpr hb)
theorem Rg.sX(G:Rg c n pv fr A σ s)(hb:s.heap.objs.size<=b):σ.σ b=LA:=by
 cases q:σ.σ b with
 |none=>rfl
 |some m =>
  refine LJ ((G.own b (by rw[q];simp)).2) λo e=>?_;exact absurd (VQ e) (aj2.mpr hb)
theorem Rg.RY(G:Rg c n pv fr A σ s)(hb:pv b):b < s.heap.objs.size:=by
 refine hZ (G.dg b hb) λ_ _ o e _=>?_;exact VQ e
theorem Rg.mS(G:Rg c n pv fr A σ s)(b:s.heap.objs.size<=a):c.base.get? a=LA:=by
 cases q:c.base.get? a with
 |none=>rfl
 |some o=>exact absurd (VQ (G.stays a o q)) (aj2.mpr b)
theorem Rg.wI(G:Rg c n pv fr A σ s)(hb:s.heap.objs.size<=b):¬(σ.V pv).T b:=λq=>q.elim (λz=>z (G.sX hb)) λz=>absurd (G.RY z) (aj2.mpr hb)
theorem aJ.grow(k:h.StaysIn h'):aJ P pv σ h σ h' :=⟨LL _,λ_ _=>rfl,λb o e _ s=>⟨s,.same (k b o e)⟩⟩
theorem xG.move(x:xG g V h i fs dd)(go:Go V h V' h')(f:∀b q,g.σ b=Y (i,q)->g'.σ b=Y (i,q))(k:∀b q o,g.σ b=Y (i,q)->h.get? b=Y o->gY o->h'.get? b=Y o):xG g' V' h' i fs dd:=by
 induction dd using cO with
 |none=>exact x
 |some d=>refine dD x λe es n a r=>?_;exact⟨f _ _ e,es,n,k _ _ _ e a λ_ q=>by exact lz q,r.go go⟩
theorem Ok.stays(k:h.StaysIn h')(x:Ok Ps σ V h i m):Ok Ps σ V h' i m:=by
 cases m with
 |lst xs=>refine dD x λe vs n g r=>?_;exact⟨e,vs,n,k _ _ g,r.go (Go.stays k)⟩
 |bD fs=>refine w4 x λe es n g r q=>?_;exact⟨e,es,n,k _ _ g,r.go (Go.stays k),q⟩
 |inst C fs=>refine nL x λe d es n e2 g b r=>?_;exact⟨e,d,es,n,e2,k _ _ g,k _ _ b,r.go (Go.stays k)⟩
 |exc C fs=>refine dD x λe t a g r=>?_;exact⟨e,t,a,k _ _ g,r.move (Go.stays k) (λ_ _ z=>z) λ_ _ _ _ z _=>k _ _ z⟩
 |dead=>trivial
theorem Rg.grow(G:Rg c n pv fr A σ s)(k:s.heap.StaysIn h'):Rg c n pv fr A σ {s with heap:=h'} where
 stays:=λb o e=>k b o (G.stays b o e)
 frames:=G.frames.of_keeps λb o e _=>⟨o,k b o e,rfl⟩
 stack:=G.stack
 hand:=G.hand
 depth:=G.depth
 units:=G.units
 fJ:=G.fJ
 dg:=λa q=>hZ (G.dg a q) λx y o e f=>⟨x,y,o,k a o e,f⟩
 objs:=λa m e=>(G.objs a m e).stays k
 own:=λa e=>nJ (G.own a e) λx o y=>⟨x,o,k a o y⟩
 gens:=G.gens
 os:=G.os
theorem gH(h:VG)(o:Obj):h.StaysIn (h.push o):=λ_ _ e=>UB _ e
theorem Rg.push(G:Rg c n pv fr A σ s)(o:Obj):Rg c n pv fr A σ {s with heap:=s.heap.push o}:=G.grow (gH _ _)
theorem aJ.push(h:VG)(o:Obj):aJ P pv σ h σ (h.push o):=.grow (gH _ _)
noncomputable def Sg.add(g:Sg)(a:LP)(m:MO)(d:Option LP):Sg :=⟨g.H++[m],λk=>if k=g.H.length then a else g.μ k,λb=>if b=a then Y (g.H.length,LB) else if Y b=d then Y (g.H.length,W) else g.σ b⟩
theorem aJ.add(G:Rg c n pv fr A σ s)(k:s.heap.StaysIn h')(f:s.heap.objs.size<=a)(i:∀x,d=Y x->s.heap.objs.size<=x): aJ P pv σ s.heap (σ.add a m d) h':=by
 refine⟨by simp[Sg.add],λk j=>QE (WA j),λb o e _ q=>⟨?_,.same (k b o e)⟩⟩;have lt:=VQ e;show(if b=a then _ else _)=LA;rw[QE (WA (LR lt f)),QE λz=>aj2.mpr (i b z.symm) lt];exact q
theorem Go.add(G:Rg c n pv fr A σ s)(k:s.heap.StaysIn h')(b:s.heap.objs.size<=a)(e:∀x,d=Y x->s.heap.objs.size<=x): Go (σ.V pv) s.heap ((σ.add a m d).V pv) h':=(aJ.add (P:=λ_=>False) G k b e).go λ_ z=>z.elim
theorem Rg.add(G:Rg c n pv fr A σ s)(k:s.heap.StaysIn h')(B:s.heap.objs.size<=a)(E:∃o,h'.get? a=Y o)
  (p:∀x,d=Y x->s.heap.objs.size<=x/\∃o,h'.get? x=Y o) (ok:Ok c.w.params (σ.add a m d) ((σ.add a m d).V pv) h' σ.H.length m):Rg c n pv fr A (σ.add a m d) {s with heap:=h'} where
 stays:=λb o e=>k b o (G.stays b o e)
 frames:=G.frames.of_keeps λb o e _=>⟨o,k b o e,rfl⟩
 stack:=G.stack
 hand:=G.hand
 depth:=G.depth
 units:=G.units
 fJ:=G.fJ
 dg:=λb q=>by
  refine hZ (G.dg b q) λx y o e f=>?_;refine⟨?_,y,o,k b o e,f⟩;have lt:=VQ e;show(if b=a then _ else _)=LA;rw[QE (WA (LR lt B)),QE λz=>aj2.mpr (p b z.symm).1 lt];exact x
 objs:=λi m' e=>by
  have M:(σ.add a m d).H=σ.H++[m]:=rfl;rw[M]at e;rcases Nat.lt_trichotomy i σ.H.length with lt|rfl|gt
  .rw[ajA lt]at e;have x:=G.objs i m' e;have go:=Go.add (m:=m) G k B (λx e=>(p x e).1);have j:(σ.add a m d).μ i=σ.μ i:=QE (WA lt);have l:∀b q,σ.σ b=Y q->(σ.add a m d).σ b=Y q:=λb q z=>by
    have lt:=VQ (G.own b (by rw[z];simp)).2.choose_spec;show(if b=a then _ else _)=_;rw[QE (WA (LR lt B)),QE λz=>aj2.mpr (p b z.symm).1 lt];exact z
   cases m' with
   |lst xs=>refine dD x λe vs n g r=>?_;exact⟨by rw[j];exact l _ _ e,vs,n,by rw[j];exact k _ _ g,r.go go⟩
   |bD fs=>refine w4 x λe es n g r q=>?_;exact⟨by rw[j];exact l _ _ e,es,n,by rw[j];exact k _ _ g,r.go go,q⟩
   |inst C fs=>refine nL x λe d es n e2 g L r=>?_;exact⟨by rw[j];exact l _ _ e,d,es,n,l _ _ e2,by rw[j];exact k _ _ g,k _ _ L,r.go go⟩
   |exc C fs=>refine dD x λe t I g r=>?_;exact⟨by rw[j];exact l _ _ e,t,I,by rw[j];exact k _ _ g,r.move go (λb q z=>l b _ z) λ_ _ _ _ z _=>k _ _ z⟩
   |dead=>trivial
  .rw[List.getElem?_concat_length]at e;have N:=LC e;clear e;subst N;exact ok
  .rw[VO (by rw[LN];simp;lia)]at e;exact bR e
 own:=λb e=>by
  have e:(if b=a then Y (σ.H.length,LB) else if Y b=d then Y (σ.H.length,W) else σ.σ b)≠LA:=e;by_cases h1:b=a
  .subst h1;exact⟨G.mS B,E⟩
  .rw[QE h1]at e;by_cases D:Y b=d
   .exact⟨G.mS (p b D.symm).1,(p b D.symm).2⟩
   .rw[QE D]at e;refine nJ (G.own b e) λx o y=>?_;exact⟨x,o,k b o y⟩
 gens:=G.gens
 os:=G.os
theorem Rel.added:Rel ((σ.add a m d).V pv) h (.ref a) (.ref σ.H.length):=by
 have:(σ.add a m d).μ σ.H.length=a:=VD rfl;have z:Rel ((σ.add a m d).V pv) h (.ref (((σ.add a m d).V pv).μ σ.H.length)) (.ref σ.H.length):=.ref (by show _ < (σ.H++[m]).length;simp)
 rwa [show((σ.add a m d).V pv).μ σ.H.length=a from this]at z
noncomputable def Sg.put(g:Sg)(k:Nat)(m:MO):Sg:={g with H:=g.H.set k m}
theorem Sg.RV(k:Nat)(m:MO):(σ.put k m).V pv=σ.V pv:=by simp[Sg.put,Sg.V]
theorem aJ.put(i:abi a h h')(f:σ.σ a≠LA):aJ P pv σ h (σ.put k m) h' :=⟨by simp[Sg.put],λ_ _=>rfl,λb o e _ q=>⟨q,.same ((i.2 b λz=>f (z▸q)).trans e)⟩⟩
theorem Go.sameBut(i:abi a h h')(f:V.T a):Go V h V h':=⟨LL _,λ_ _=>rfl,λ_ _ _ t=>t,λb o e t _=>⟨o,(i.2 b λz=>t (z▸f)).trans e,.rfl⟩⟩
theorem Rg.put(G:Rg c n pv fr A σ s){k:Nat}{m m₀:MO}{a:LP}{b:Bool}(B:σ.H[k]?=Y m₀)(j:abi a s.heap h')(p:σ.σ a=Y (k,b))
  (ok:Ok c.w.params σ (σ.V pv) h' k m) (E:∃o,h'.get? a=Y o):Rg c n pv fr A (σ.put k m) {s with heap:=h'} where
 stays:=λb o e=>(j.2 b λz=>by have:=(G.own a (by rw[p];simp)).1;rw[z,this]at e;exact bR e).trans (G.stays b o e)
 frames:=frames_at (λenv he L N o e S=>⟨o,(j.2 L λz=>by have:=(G.dg L (G.fJ env he L N)).1;rw[z,p]at this;exact fZ this).trans e,by assumption⟩) G.frames
 stack:=G.stack
 hand:=G.hand
 depth:=G.depth
 units:=G.units
 fJ:=G.fJ
 dg:=λx q=>hZ (G.dg x q) λu y o e f=>⟨u,y,o,(j.2 x λz=>by rw[z,p]at u;exact fZ u).trans e,f⟩
 objs:=λi m' e=>by
  rw[Sg.RV];have M:(σ.put k m).H=σ.H.set k m:=rfl;rw[M]at e;have lt:k < σ.H.length:=by
   rcases anp k σ.H.length with z|z
   .exact z
   .rw[VO z]at B;exact bR B
  by_cases hi:k=i
  .subst hi;rw[akq lt]at e;have Q:=LC e;clear e;subst Q;cases m<;>exact ok
  .rw[WC hi]at e;have x:=G.objs i m' e;have go:Go (σ.V pv) s.heap (σ.V pv) h':=Go.sameBut j (.inl (by rw[p];simp));have l:∀y q,σ.σ y=Y (i,q)->y≠a:=λy q z w=>by rw[w,p]at z;cases z;exact hi rfl
   cases m' with
   |lst xs=>refine dD x λe vs n g r=>?_;exact⟨e,vs,n,(j.2 _ (l _ _ e)).trans g,r.go go⟩
   |bD fs=>refine w4 x λe es n g r q=>?_;exact⟨e,es,n,(j.2 _ (l _ _ e)).trans g,r.go go,q⟩
   |inst C fs=>refine nL x λe d es n e2 g I r=>?_;exact⟨e,d,es,n,e2,(j.2 _ (l _ _ e)).trans g,(j.2 _ (l _ _ e2)).trans I,r.go go⟩
   |exc C fs=>refine dD x λe t D g r=>?_;exact⟨e,t,D,(j.2 _ (l _ _ e)).trans g,r.move go (λ_ _ z=>z) λb q _ z w _=>(j.2 _ (l b q z)).trans w⟩
   |dead=>trivial
 own:=λx e=>⟨(G.own x e).1,by
  refine nJ (G.own x e) λ_ o y=>?_;by_cases q:x=a
  .subst q;exact E
  .exact⟨o,(j.2 x q).trans y⟩⟩
 gens:=G.gens
 os:=G.os
end
section
variable{c:GC}{f:Fc}{l:Lc}{σ:Sg}{Q Q':QV}{X X':QX}
def qW(c:GC)(f:Fc)(t:LD->Sem LD)(x:O)(l:Lc)(σ:Sg)(Q:QV)(X:QX):Prop :=∀v s,R c f l σ s->Rel (σ.V f.pv) s.heap v x->wpAny (LS c.prog c.w) f.A (t v) (jv c f l σ s Q) (dH c f σ s λl' x a=>l'=l/\X x a) s
def bY(c:GC)(f:Fc)(t:LD->LD->Sem LD)(x y:O)(l:Lc)(σ:Sg)(Q:QV)(X:QX):Prop :=∀v w s,R c f l σ s->Rel (σ.V f.pv) s.heap v x->Rel (σ.V f.pv) s.heap w y->wpAny (LS c.prog c.w) f.A (t v w) (jv c f l σ s Q) (dH c f σ s λl' x a=>l'=l/\X x a) s
abbrev QB:=Bool->Sg->Prop
inductive Aw (c:GC) (f:Fc) (l:Lc) (σ:Sg) (h₀:VG) (Q:QB) (b:Bool) (s':LG):Prop
 |mk (ain:Sg) (R':R c f l ain s') (S:aJ f.P f.pv σ h₀ ain s'.heap) (q:Q b ain)
abbrev J4(c:GC)(f:Fc)(l:Lc)(σ:Sg)(s:LG)(Q:QB):=Aw c f l σ s.heap Q
theorem Aw.elim{c:GC}{f:Fc}{l:Lc}{σ:Sg}{a:VG}{Q:QB}{b:Bool}{s':LG}{P:Prop}(h:Aw c f l σ a Q b s')(k:∀e,R c f l e s'->aJ f.P f.pv σ a e s'.heap->Q b e->P):P:=by
 cases h;exact k _ (by assumption) (by assumption) (by assumption)
theorem j8{M:al3}{B:adh}{c:GC}{f:Fc}{l:Lc}{σ:Sg}{s:LG}{j:VG}{Q:QB}{E m:LD->LG->Prop}{t:Sem Bool}{P:Bool->LG->Prop}(h:wpAny M B t (Aw c f l σ j Q) E s)(k:∀v s' i,R c f l i s'->aJ f.P f.pv σ j i s'.heap->Q v i->P v s')(p:∀e s',E e s'->m e s'):wpAny M B t P m s :=VL h (λv s' z=>z.elim λi a b d=>k v s' i a b d) p
def xQ(c:GC)(f:Fc)(t:Sem Bool)(l:Lc)(σ:Sg)(Q:QB)(X:QX):Prop :=∀s,R c f l σ s->wpAny (LS c.prog c.w) f.A t (J4 c f l σ s Q) (dH c f σ s λl' x a=>l'=l/\X x a) s
abbrev iR(c:GC)(f:Fc)(e:LF)(l:Lc)(σ:Sg)(Q:QB)(X:QX):Prop:=xQ c f (isTrue e f.env (eval e f.env)) l σ Q X
def pM(c:GC)(f:Fc)(x:O)(l:Lc)(σ:Sg)(Q:QB)(X:QX):Prop :=∀v s,R c f l σ s->Rel (σ.V f.pv) s.heap v x->wpAny (LS c.prog c.w) f.A (truthy v) (J4 c f l σ s Q) (dH c f σ s λl' x a=>l'=l/\X x a) s
theorem dF(a:R c f l σ s)(r:Rel (σ.V f.pv) s.heap v x)(h:Q x σ):jv c f l σ s Q v {s with toks:=tk'} :=⟨x,σ,r,a.tok _,.refl,h⟩
theorem KA{k pos}(h:Q (.int i) σ):bF c f (.Constant (.int i) k pos) l σ Q X:=λs a=>wpAny_Constant_int (dF a (.int _ _) h)
theorem Yu{k pos}(h:Q (.str x) σ):bF c f (.Constant (.str x) k pos) l σ Q X:=λs a=>Constant_str (dF a (.str _ _) h)
theorem Ye{k pos}(h:Q (.bool b) σ):bF c f (.Constant (.bool b) k pos) l σ Q X:=λs a=>Constant_bool (dF a (.bool _) h)
theorem Yq{k pos}(h:Q .none σ):bF c f (.Constant .none k pos) l σ Q X:=λs a=>Constant_none (dF a .none h)
theorem Yx(y:l.lookup x=Y v)(h:Q v σ)(p:(x == ("__debug__" : Str))=LB)(w:(x == ("__classdict__" : Str))=LB):bF c f (.Name x pos) l σ Q X:=λs b=>by
 refine aM (b.vars _ _ y) λj k r=>?_;refine wpAny_Name ?_ p;have z:jv c f l σ s Q j s:=⟨v,σ,r,b,.refl,h⟩;exact k.el (λq m hm e=>wpAny_loadName_local b.kind q hm e z) (λq a i e=>wpAny_loadName_cell b.kind q i e z) λq a i e=>wpAny_loadName_free b.kind q i e z w
def sQ(f:Fc)(x:Str):Prop:=f.env.kindOf x=Y .globalImplicit
def pK(c:GC)(v:LD)(x:O):Prop:=∀V:Vw,(∀a,c.base.get? a≠LA->¬V.T a)->Rel V c.base v x
theorem pK.here(r:pK c v x){pv:LP->Prop}(G:Rg c n pv fr A σ s):Rel (σ.V pv) s.heap v x :=
 (r (σ.V pv) λa q t=>by
   rcases t with t|t
   .exact q (G.own a t).1
   .exact q (G.dg a t).2.1).go (Go.stays G.stays)
theorem Yl(e:sQ f x)(hm:c.mg x=Y v)(i:pK c v av)(h:Q av σ)(b:(x == ("__debug__" : Str))=LB):bF c f (.Name x pos) l σ Q X:=λs a=>by
 refine ali a.kind e (anV (mg:=c.mg) ?_ hm ⟨av,σ,i.here a.g,a,.refl,h⟩) b;rw[a.glob];exact c.top.g.keeps a.g.stays
theorem Yd{a b op pos}(h:bF c f a l σ (λx j=>bF c f b l j (λy m=>bY c f (ajw op) x y l m Q X) X) X):bF c f (.BinOp a op b pos) l σ Q X:=λs G => wpAny_BinOp (dc (h s G) (λv A x j rv z e B=>dc (B A z) (λw C y m rw D i E => VL (E v w C D (rv.step i z.own) rw) (λ_ _ p=>p.after (e.trans i)) λ_ _ p=>p.after (e.trans i)) λ_ _ p=>p.after e) λ_ _ p=>p)
theorem Yh{a b op pos}(h:bF c f a l σ (λx j=>bF c f b l j (λy m=>bY c f (VK op) x y l m Q X) X) X)(hm:alQ op b=LB):bF c f (.Compare a [op] [b] pos) l σ Q X:=λs G => wpAny_Compare1 (dc (h s G) (λv A x j rv z e B=>dc (B A z) (λw C y m rw D i E => VL (E v w C D (rv.step i z.own) rw) (λ_ _ p=>p.after (e.trans i)) λ_ _ p=>p.after (e.trans i)) λ_ _ p=>p.after e) λ_ _ p=>p) hm
theorem KC{a op pos}(h:bF c f a l σ (λx b=>qW c f (unaryOp op) x l b Q X) X):bF c f (.UnaryOp op a pos) l σ Q X:=λs w => UnaryOp_ (dc (h s w) (λv i x b rv j e m=>VL (m v i j rv) (λ_ _ p=>p.after e) λ_ _ p=>p.after e) λ_ _ p=>p)
theorem YA{a b op pos}{Q:QB}(h:bF c f a l σ (λx A=>bF c f b l A (λy B=>bY c f (VK op) x y l B (λz j=>pM c f z l j Q X) X) X) X)(hm:alQ op b=LB):iR c f (.Compare a [op] [b] pos) l σ Q X:=λs hR => wpAny_isTrue_Compare1 (dc (h s hR) (λv M x A rv C e N=>dc (N M C) (λw S y B rw T i Z => dc (Z v w S T (rv.step i C.own) rw) (λu E z j ru D m L => j8 (L u E D ru) (λ_ _ G I H q=>⟨G,I,((e.trans i).trans m).trans H,q⟩) λ_ _ p=>p.after ((e.trans i).trans m)) λ_ _ p=>p.after (e.trans i)) λ_ _ p=>p.after e) λ_ _ p=>p) hm
theorem YB{a pos}{Q:QB}(h:iR c f a l σ (λb e=>Q (!b) e) X):iR c f (.UnaryOp .Not a pos) l σ Q X:=λs i=>isTrue_not (j8 (h s i) (λb s' e R S q=>⟨e,R,S,q⟩) λ_ _ p=>p)
theorem Yz{pos}{Q:QB}(h:Q W σ):iR c f (.BoolOp .And [] pos) l σ Q X:=λs a=>isTrue_and_nil ⟨σ,a,.refl,h⟩
theorem YD{pos}{Q:QB}(h:Q LB σ):iR c f (.BoolOp .Or [] pos) l σ Q X:=λs a=>isTrue_or_nil ⟨σ,a,.refl,h⟩
theorem Yy{a rest pos}{Q:QB}(h:iR c f a l σ (λb e=>if b then iR c f (.BoolOp .And rest pos) l e Q X else Q LB e) X):iR c f (.BoolOp .And (a::rest) pos) l σ Q X:=λs A =>
 isTrue_and (j8 (h s A) (λb x e j i m=>by
  induction b using cB with
  |false=>exact⟨e,j,i,m⟩
  |true=>exact j8 (m x j) (λ_ _ w z y q=>⟨w,z,i.trans y,q⟩) λ_ _ p=>p.after i) λ_ _ p=>p)
theorem YC{a rest pos}{Q:QB}(h:iR c f a l σ (λb e=>if b then Q W e else iR c f (.BoolOp .Or rest pos) l e Q X) X):iR c f (.BoolOp .Or (a::rest) pos) l σ Q X:=λs A =>
 isTrue_or (j8 (h s A) (λb x e j i m=>by
  induction b using cB with
  |true=>exact⟨e,j,i,m⟩
  |false=>exact j8 (m x j) (λ_ _ w z y q=>⟨w,z,i.trans y,q⟩) λ_ _ p=>p.after i) λ_ _ p=>p)
theorem YE{e}{Q:QB}(h:bF c f e l σ (λx b=>pM c f x l b Q X) X)
  (he:∀a,isTrue e f.env a=(do let v ←a;standAt e.pos;holding [v] (truthy v))):iR c f e l σ Q X:=λs B => isTrue_plain (dc (h s B) (λv m x b rv w i y=>j8 (y v m w rv) (λ_ _ j A z q=>⟨j,A,i.trans z,q⟩) λ_ _ p=>p.after i) λ_ _ p=>p) (he _)
theorem Ym{t a b pos}(h:iR c f t l σ (λx i=>if x then bF c f a l i Q X else bF c f b l i Q X) X):bF c f (.IfExp t a b pos) l σ Q X:=λs y =>
 IfExp_ (j8 (h s y) (λb j i m e w=>by
  induction b using cB with
  |false=>exact VL (w j m) (λ_ _ p=>p.after e) λ_ _ p=>p.after e
  |true=>exact VL (w j m) (λ_ _ p=>p.after e) λ_ _ p=>p.after e) λ_ _ p=>p)
theorem Yr{op a pos}(h:bF c f a l σ Q X):bF c f (.BoolOp op [a] pos) l σ Q X:=λs b=>BoolOp_one (h s b)
theorem Yb{a b rest pos}(h:bF c f a l σ (λx m=>pM c f x l m (λt e=>if t then bF c f (.BoolOp .And (b::rest) pos) l e Q X else Q x e) X) X):bF c f (.BoolOp .And (a::b::rest) pos) l σ Q X:=λs C =>
 BoolOp_and (dc (h s C) (λv z x m rv w i A=>j8 (A v z w rv) (λt B e y j q=>by
  induction t using cB with
  |false=>exact⟨x,e,rv.step j w.own,y,i.trans j,q⟩
  |true=>exact VL (q B y) (λ_ _ p=>p.after (i.trans j)) λ_ _ p=>p.after (i.trans j)) λ_ _ p=>p.after i) λ_ _ p=>p)
theorem Ys{a b rest pos}(h:bF c f a l σ (λx m=>pM c f x l m (λt e=>if t then Q x e else bF c f (.BoolOp .Or (b::rest) pos) l e Q X) X) X):bF c f (.BoolOp .Or (a::b::rest) pos) l σ Q X:=λs C =>
 BoolOp_or (dc (h s C) (λv z x m rv w i A=>j8 (A v z w rv) (λt B e y j q=>by
  induction t using cB with
  |true=>exact⟨x,e,rv.step j w.own,y,i.trans j,q⟩
  |false=>exact VL (q B y) (λ_ _ p=>p.after (i.trans j)) λ_ _ p=>p.after (i.trans j)) λ_ _ p=>p.after i) λ_ _ p=>p)
theorem Kg{Q:QB}(h:Q b σ):pM c f (.bool b) l σ Q X:=λv s a r=>by refine r.Zu ?_;exact wpAny_truthy_bool ⟨σ,a,.refl,h⟩
theorem XF{Q:QB}(h:Q LB σ):pM c f .none l σ Q X:=λv s a r=>by refine r.CH ?_;exact truthy_none ⟨σ,a,.refl,h⟩
theorem XD{Q:QB}(h:Q (i != 0) σ):pM c f (.int i) l σ Q X:=λv s a r=>by refine r.fz λ_=>?_;exact apy ⟨σ,a,.refl,h⟩
theorem Wb(h:Q (.int (a+b)) σ):bY c f (ajw .Add) (.int a) (.int b) l σ Q X:=λv w s e r i=>by refine r.fz λ_=>i.fz λ_=>?_;exact apH (dF e (.int _ _) h)
theorem WX(h:Q (.int (a - b)) σ):bY c f (ajw .Sub) (.int a) (.int b) l σ Q X:=λv w s e r i=>by refine r.fz λ_=>i.fz λ_=>?_;exact apI (dF e (.int _ _) h)
theorem J3(h:Q (.int (a * b)) σ)(hm:IntMulOk a b):bY c f (ajw .Mult) (.int a) (.int b) l σ Q X:=λv w s e r i=>by refine r.fz λ_=>i.fz λ_=>?_;exact apJ (dF e (.int _ _) h) hm
theorem Wn(hq:c.quiet=W)(hb:b≠0)(i:b.natAbs < 1073741824)(h:Q (.int (a.fdiv b)) σ):bY c f (ajw .FloorDiv) (.int a) (.int b) l σ Q X:=λv w s e r j=>by
 refine r.fz λ_=>j.fz λ_=>?_;refine floordiv_int_or (e.g.hand hq) (λq=>absurd q hb) (λ_=>?_) λ_=>.inl (PyProof.noPylong_small i);exact dF e (.int _ _) h
theorem Wo(hq:c.quiet=W)(hb:b≠0)(h:Q (.int (a.fmod b)) σ):bY c f (ajw .Mod) (.int a) (.int b) l σ Q X:=λv w s e r i=>by
 refine r.fz λ_=>i.fz λ_=>?_;refine mod_int_or (e.g.hand hq) (λq=>absurd q hb) λ_=>?_;exact dF e (.int _ _) h
theorem WS(e:0<=n)(i:(alz a:Int)* n<=2 ^ 27)(h:Q (.int (a ^ n.toNat)) σ):bY c f (ajw .Pow) (.int a) (.int n) l σ Q X:=λv w s b r j=>by
 refine r.fz λ_=>j.fz λ_=>?_;exact pow_int e i (dF b (.int _ _) h)
theorem WK(h:Q (.int (-a)) σ):qW c f (unaryOp .USub) (.int a) l σ Q X:=λv s b r=>by refine r.fz λ_=>?_;exact apK (dF b (.int _ _) h)
theorem WM(h:pM c f x l σ (λb a=>Q (.bool (!b)) a) X):qW c f (unaryOp .Not) x l σ Q X:=λv s j r => not_of (j8 (h v s j r) (λb s' a e i q=>⟨.bool (!b),a,.bool _,e,i,q⟩) λ_ _ p=>p)
theorem We(h:Q (.str (a++b)) σ)(i:a.length+b.length<=WE):bY c f (ajw .Add) (.str a) (.str b) l σ Q X:=λv w s e r j=>by
 refine r.jG λ_=>j.jG λ_=>?_;exact apL (λ_ _=>dF e (.str _ _) h) i
theorem Wj(h:Q (.bool (a == b)) σ):bY c f (VK .Eq) (.int a) (.int b) l σ Q X:=λv w s e r i=>by refine r.fz λ_=>i.fz λ_=>?_;exact apO ⟨_,σ,.bool _,e,.refl,h⟩
theorem WH(h:Q (.bool (a != b)) σ):bY c f (VK .NotEq) (.int a) (.int b) l σ Q X:=λv w s e r i=>by refine r.fz λ_=>i.fz λ_=>?_;exact apP ⟨_,σ,.bool _,e,.refl,h⟩
theorem WG(h:Q (.bool (decide (a < b))) σ):bY c f (VK .Lt) (.int a) (.int b) l σ Q X:=λv w s e r i=>by refine r.fz λ_=>i.fz λ_=>?_;exact apQ ⟨_,σ,.bool _,e,.refl,h⟩
theorem Wr(h:Q (.bool (decide (b < a))) σ):bY c f (VK .Gt) (.int a) (.int b) l σ Q X:=λv w s e r i=>by refine r.fz λ_=>i.fz λ_=>?_;exact apR ⟨_,σ,.bool _,e,.refl,h⟩
theorem Wq(h:Q (.bool (decide (b<=a))) σ):bY c f (VK .GtE) (.int a) (.int b) l σ Q X:=λv w s e r i=>by refine r.fz λ_=>i.fz λ_=>?_;exact apS ⟨_,σ,.bool _,e,.refl,h⟩
theorem Wm(h:Q (.bool (a == b)) σ):bY c f (VK .Eq) (.str a) (.str b) l σ Q X:=λv w s e r i=>by refine r.jG λ_=>i.jG λ_=>?_;exact apT ⟨_,σ,.bool _,e,.refl,h⟩
theorem WL(h:Q (.bool (a != b)) σ):bY c f (VK .NotEq) (.str a) (.str b) l σ Q X:=λv w s e r i=>by refine r.jG λ_=>i.jG λ_=>?_;exact apU ⟨_,σ,.bool _,e,.refl,h⟩
noncomputable def O.isNone:O->Bool | .none=>W|_=>LB
theorem Rel.isNone(r:Rel T h v x):(v == .none)=x.isNone:=by cases r<;>rfl
theorem Wy(h:Q (.bool x.isNone) σ):bY c f (VK .Is) x .none l σ Q X:=λv w s a r b=>by refine b.CH ?_;exact is_none_gen ⟨_,σ,.bool _,a,.refl,by rw[r.isNone];exact h⟩
theorem Wz(h:Q (.bool (!x.isNone)) σ):bY c f (VK .IsNot) x .none l σ Q X:=λv w s a r b=>by refine b.CH ?_;exact isnot_none_gen ⟨_,σ,.bool _,a,.refl,by rw[r.isNone];exact h⟩
variable{ain:Sg}{s:LG}{s':LG}
theorem Ns.data{h h':VG}{a:LP}{m:Str->Option LD}(x:h.Ns a m)(k:∀o,h.get? a=Y o->∃b,h'.get? a=Y b/\b.data=o.data):h'.Ns a m :=x.elim λo x=>x.elim λes x=>x.elim λe x=>(k o x.1).elim λb q=>⟨b,es,e,q.1,q.2.trans x.2.1,x.2.2⟩
theorem IsCell.data{h h':VG}{a:LP}{v:Option LD}(x:h.IsCell a v)(k:∀o,h.get? a=Y o->∃b,h'.get? a=Y b/\b.data=o.data):h'.IsCell a v :=x.elim λo x=>(k o x.1).elim λb q=>⟨b,q.1,q.2.trans x.2⟩
theorem fD.data{env:Env}{h h':VG}{x:Str}{v:LD}(k:fD env h x v)(e:∀b,(b=env.locals∨b∈env.cells.map (·.2))->∀o,h.get? b=Y o->∃i,h'.get? b=Y i/\i.data=o.data):fD env h' x v:=by
 unfold fD at k ⊢;have c:(∃a,env.cells.lookup x=Y a/\h.IsCell a (Y v))->∃a,env.cells.lookup x=Y a/\h'.IsCell a (Y v):=λk=>k.imp λa k=>⟨k.1,IsCell.data k.2 (e _ (.inr (aak.mpr ⟨_,mem_of_lookup k.1,rfl⟩)))⟩;revert k;generalize env.kindOf x=o;induction o using cO with
 |none=>exact id
 |some kd=>cases kd<;>first|exact id|exact c|exactλk=>k.imp λm k=>⟨Ns.data k.1 (e _ (.inl rfl)),k.2⟩
theorem R.move(e:R c f l σ s)(G:Rg c f.n f.pv f.fr f.A ain s')(go:Go (σ.V f.pv) s.heap (ain.V f.pv) s'.heap)
  (k:∀b,f.P b->∀o,s.heap.get? b=Y o->∃h,s'.heap.get? b=Y h/\h.data=o.data):R c f l ain s' where
 g:=G
 ns:=LJ e.ns λm hm=>⟨m,Ns.data hm (k _ (.inl rfl))⟩
 vars:=λx y i=>aM (e.vars x y i) λv a r=>⟨v,a.data k,r.go go⟩
 iS:=λb q=>LJ (e.iS b q) λv x=>⟨v,IsCell.data x (k b (.inr q))⟩
 own:=e.own
 nd:=e.nd
 kind:=e.kind
 glob:=e.glob
 lW:=e.lW
 top:=e.top
theorem R.grow(a:R c f l σ s)(k:s.heap.StaysIn h'):R c f l σ {s with heap:=h'} :=a.move (a.g.grow k) (Go.stays k) λb _ o e=>⟨o,k b o e,rfl⟩
theorem R.push(a:R c f l σ s)(o:Obj):R c f l σ {s with heap:=s.heap.push o}:=a.grow (gH _ _)
theorem R.add(h:R c f l σ s)(k:s.heap.StaysIn h')(j:s.heap.objs.size<=a)(i:∃o,h'.get? a=Y o)(p:∀x,d=Y x->s.heap.objs.size<=x/\∃o,h'.get? x=Y o)(ok:Ok c.w.params (σ.add a m d) ((σ.add a m d).V f.pv) h' σ.H.length m):R c f l (σ.add a m d) {s with heap:=h'}:=h.move (h.g.add k j i p ok) (Go.add h.g k j λx e=>(p x e).1) λb _ o e=>⟨o,k b o e,rfl⟩
theorem R.put(h:R c f l σ s)(y:σ.H[k]?=Y m₀)(j:abi a s.heap h')(i:σ.σ a=Y (k,b))(ok:Ok c.w.params σ (σ.V f.pv) h' k m)(p:∃o,h'.get? a=Y o):R c f l (σ.put k m) {s with heap:=h'}:=
 h.move (h.g.put y j i ok p) (by rw[Sg.RV];exact Go.sameBut j (.inl (by rw[i];simp))) λx A o e=>⟨o,(j.2 x λz=>by
  have:=(h.g.dg x (h.own x A)).1;rw[z,i]at this;exact fZ this).trans e,rfl⟩
inductive J6 (c:GC) (f:Fc) (l:Lc) (σ:Sg) (h₀:VG) (Q:List O->Sg->Prop) (vs:List LD) (s':LG):Prop
 |mk (xs:List O) (ain:Sg) (r:bh (ain.V f.pv) s'.heap vs xs) (R':R c f l ain s') (S:aJ f.P f.pv σ h₀ ain s'.heap) (q:Q xs ain)
abbrev Xg(c:GC)(f:Fc)(l:Lc)(σ:Sg)(s:LG)(Q:List O->Sg->Prop):=J6 c f l σ s.heap Q
theorem wC{Q:List O->Sg->Prop}{E i:LD->LG->Prop}{t:Sem (List LD)}{P:List LD->LG->Prop}(h:wpAny M B t (J6 c f l σ h₀ Q) E s)(k:∀v s' x ain,bh (ain.V f.pv) s'.heap v x->R c f l ain s'->aJ f.P f.pv σ h₀ ain s'.heap->Q x ain->P v s')(j:∀e s',E e s'->i e s'):wpAny M B t P i s:=VL h (λv s' z=>by induction z with|mk x ain a b d e=>exact k v s' x ain a b d e) j
def qY(c:GC)(f:Fc)(t:Sem (List LD))(l:Lc)(σ:Sg)(Q:List O->Sg->Prop)(X:QX):Prop :=∀s,R c f l σ s->wpAny (LS c.prog c.w) f.A t (Xg c f l σ s Q) (dH c f σ s λl' x ain=>l'=l/\X x ain) s
theorem YG{Q:List O->Sg->Prop}(h:Q [] σ):qY c f (alC []) l σ Q X:=λs a=>spliced_nil ⟨[],σ,.nil,a,.refl,h⟩
theorem YF{rest:List (Bool×Sem LD)}{Q:List O->Sg->Prop}(h:j4 c f t l σ (λx b=>qY c f (alC rest) l b (λxs a=>Q (x::xs) a) X) X):qY c f (alC ((LB,t)::rest)) l σ Q X:=λs B => spliced_cons (dc (h s B) (λv m x b rv i e w=>wC (w m i) (λvs A xs a z y j q=>⟨x::xs,a,.cons (rv.step j i.own) z,y,e.trans j,q⟩) λ_ _ p=>p.after e) λ_ _ p=>p)
theorem Jq(a:R c f l σ s)(r:bh (σ.V f.pv) s.heap vs xs)(n:Nat): Rel (σ.V f.pv) (s.heap.push {cls:=.type "tuple",data:=.seq vs.toArray n}) (.ref s.heap.objs.size) (.tup xs):=.tup (a.g.wI (LL _)) (VU _ rfl) (r.go (Go.stays (gH _ _)))
theorem Yw(h:qY c f (alC (alj pos (akr elts f.env))) l σ (λxs ain=>xs.length<=WE/\Q (.tup xs) ain) X):bF c f (.Tuple elts k pos) l σ Q X:=λs j =>
 wpAny_Tuple (wC (h s j) (λvs i xs b r a e m=>bg m λz q=>⟨by rw[r.length];exact z,.tup xs,b,Jq a r _,a.push _,e.trans (aJ.push _ _),q⟩) λ_ _ p=>p)
theorem Cw(a:R c f l σ s)(r:bh (σ.V f.pv) s.heap vs xs): R c f l (σ.add s.heap.objs.size (.lst xs) LA) {s with heap:=s.heap.push {cls:=.type "list",data:=.seq vs.toArray} } /\ Rel ((σ.add s.heap.objs.size (.lst xs) LA).V f.pv) (s.heap.push {cls:=.type "list",data:=.seq vs.toArray}) (.ref s.heap.objs.size) (.ref σ.H.length) /\ aJ f.P f.pv σ s.heap (σ.add s.heap.objs.size (.lst xs) LA) (s.heap.push {cls:=.type "list",data:=.seq vs.toArray}):=by
 have b:(σ.add s.heap.objs.size (.lst xs) LA).μ σ.H.length=s.heap.objs.size:=VD rfl;refine⟨a.add (gH _ _) (LL _) ⟨_,VU _ rfl⟩ (λ_ e=>by exact bR e) ⟨?_,vs,0,?_,?_⟩,Rel.added,aJ.add a.g (gH _ _) (LL _) λ_ e=>by exact bR e⟩
 .rw[b];exact VD rfl
 .rw[b];exact VU _ rfl
 .exact r.go (Go.add a.g (gH _ _) (LL _) λ_ e=>by exact bR e)
theorem Yo(h:qY c f (alC (alj pos (akr elts f.env))) l σ (λxs ain=>xs.length<=WE/\∀e:Sg,e.H=ain.H++[.lst xs]->Q (.ref ain.H.length) e) X):bF c f (.List elts pos) l σ Q X:=λs m =>
 wpAny_List (wC (h s m) (λvs j xs i r a b w=>bg w λz q=>⟨by rw[r.length];exact z,_,_,(Cw a r).2.1,(Cw a r).1,b.trans (Cw a r).2.2,q _ rfl⟩) λ_ _ p=>p)
theorem Et(a:R c f l σ s): R c f l (σ.add s.heap.objs.size (.bD []) LA) {s with heap:=s.heap.push {cls:=.type "dict",data:=.dict #[]} } /\ Rel ((σ.add s.heap.objs.size (.bD []) LA).V f.pv) (s.heap.push {cls:=.type "dict",data:=.dict #[]}) (.ref s.heap.objs.size) (.ref σ.H.length) /\ aJ f.P f.pv σ s.heap (σ.add s.heap.objs.size (.bD []) LA) (s.heap.push {cls:=.type "dict",data:=.dict #[]}):=by
 have b:(σ.add s.heap.objs.size (.bD []) LA).μ σ.H.length=s.heap.objs.size:=VD rfl;refine⟨a.add (gH _ _) (LL _) ⟨_,VU _ rfl⟩ (λ_ e=>by exact bR e) ⟨?_,[],0,?_,.nil,trivial,.nil⟩,Rel.added,aJ.add a.g (gH _ _) (LL _) λ_ e=>by exact bR e⟩
 .rw[b];exact VD rfl
 .rw[b];exact VU _ rfl
theorem Yj(h:∀b:Sg,b.H=σ.H++[.bD []]->Q (.ref σ.H.length) b):bF c f (.Dict [] [] pos) l σ Q X:=λs a => wpAny_Dict_empty ⟨_,_,(Et a).2.1,(Et a).1,(Et a).2.2,h _ rfl⟩
end
noncomputable def cy(name:Str)(x:O):List (Str×O)->List (Str×O)
 | []=>[(name,x)]
 |(n,y)::r=>if n == name then(n,x)::r else(n,y)::cy name x r
theorem cD.put(r:Rel V h v x)(R:cD V h es fs):cD V h (putL name hs (.str name t) v es) (cy name x fs) :=
 R.ind (P:=λes fs=>cD V h (putL name hs (.str name t) v es) (cy name x fs)) (.cons r .nil) λ{e n f w es y fs} a b i=>by
  show cD V h (if (n == name)=W then⟨e,.str n f,v⟩::es else⟨e,.str n f,w⟩::putL name hs (.str name t) v es) (if (n == name)=W then(n,x)::fs else(n,y)::cy name x fs);by_cases q:(n == name)=W
  .rw[VD q,VD q];exact .cons r b
  .rw[QE q,QE q];exact .cons a i
theorem ac4{a:Type}{b:Bool}{x y:a}{P:a->Prop}(h:P x)(k:P y):P (if b=W then x else y):=by
 cases b
 .exact k
 .exact h
theorem ac5{a:Type}{b:Bool}{x y:a}{P:a->Prop}(h:b=W->P x)(k:b=LB->P y):P (if b=W then x else y):=by
 cases b
 .exact k rfl
 .exact h rfl
theorem Qf{a:Type}{b:Bool}{x y:a}{P:a->Prop}{G:Prop}(h:P (if b=W then x else y))(k:b=W->P x->G)(k2:b=LB->P y->G):G:=by
 cases b
 .exact k2 rfl h
 .exact k rfl h
theorem wq{a:Type}{c:Prop} [Decidable c] {x y:a}{P:a->Prop}(h:c->P x) (k:¬c->P y):P (if c then x else y):=by
 by_cases q:c
 .rw[VD q];exact h q
 .rw[QE q];exact k q
theorem ae1(name:Str)(a:Int)(k v:LD):∀es:List QA,(putL name a k v es).length<=es.length+1:=by
 intro es;induction es with
 |nil =>
  exact LL _
 |cons e r b =>
  exact ac4 (P:=λl:List QA=>l.length<=(e::r).length+1) (ajq _) (VT b)
theorem abY{es:List QA}(a:(alb name es).isSome=W):(!es.any (·.key.isStr name)&&es.any (·.refKey))=LB:=by
 unfold alb at a;cases he:es.find? (·.key.isStr name) with
 |some en=>rw[amd.mpr ⟨en,List.mem_of_find?_eq_some he,List.find?_some he⟩];rfl
 |none =>
  rw[he]at a;cases z:es.any (·.refKey) with
  |false=>rw[ao0]
  |true=>rw[z]at a;exact bL a
theorem cD.Oi(name:Str)(r:cD V h es fs):(alb name es).isSome=W:=by
 cases q:fs.lookup name with
 |none=>rw[cD.miss name r q];rfl
 |some x=>refine aM (cD.find name r q) λv e _=>?_;rw[e];rfl
section
variable{prog:ajI}{w:ac9}{A:adh}{E:LD->LG->Prop}{s:LG}{K:aeb}{x C dx:LP}{ox:Obj}{es:List QA}{n:Nat}{name:Str}{v:LD}
theorem I8{P:Fin->LG->Prop}{b:LD->LG->Prop}(D:s.heap.get? dx=Y (aaR es n))(e:(alb name es).isSome=W)(f:es.length<=900)(h:P (.done (.ret .none)) {s with heap:=s.heap.update dx (ajP name (aaV w.params name) (.str name s.toks) v),toks:=s.toks+1}): wpAny (LS prog w) A' (alk dx (.str name tk) name v) P b s:=by
 unfold alk aoF;refine wpAny_bind (wpAny_pure (wpAny_bind ?_));unfold nsSet;refine wpAny_bind (wpAny_bind (wpAny_askSetting (wpAny_pure (wpAny_bind (wpAny_mkText (wpAny_bind (alD (s:={s with toks:=s.toks+1}) D ?_)))))));dsimp only;rw[aRefKeyMayBeTheName_at,←aom,←aom,abY e];have a:(s.heap.update dx (ajP name (aaV w.params name) (.str name s.toks) v)).get? dx=Y (ajP name (aaV w.params name) (.str name s.toks) v (aaR es n)) :=
  aji _ D (by rw[alm];rfl)
 refine wpAny_updatePart D ?_;refine wpAny_bind (wpAny_lookBehind a (by rw[alm];exact pastItsLine_dict (by rw[QD,sizeLine_eq];have:=ae1 name (aaV w.params name) (.str name s.toks) v es;lia)) ?_);exact wpAny_pure h
theorem aeB{R:akG->LG->Prop}(X:K.In s.heap)(I:InstAt s.heap x ox C (Y (aaR es n)))(f:ox.dict=Y dx)(m:anq K C=W)(p:ak1 K C name=Y LA)(j:ajM K C=W)(l:(alb name es).isSome=W)(z:es.length<=900)(h:R (.ok (.ret .none)) {s with heap:=s.heap.update dx (ajP name (aaV w.params name) (.str name s.toks) v),toks:=s.toks+1}): ajz (LS prog w) A (.call (.builtin "object.__setattr__") ⟨[.ref x,.str name tk,v],[]⟩) R s:=by
 refine osa_open X I m p λb=>?_;refine aM (aon j) λL i e=>?_;obtain⟨y,jM,M,D⟩:=I;obtain⟨N,G,B,H⟩:=ox;dsimp only at jM f;subst jM f;refine wpAny_bind (wpAny_pure (wpAny_bind (wpAny_bind (alD y (wpAny_bind ((amI X i).here ?_))))));rw[e];exact wpAny_pure (a:=Y dx) (I8 D l z h)
theorem agm{Q:Unit->LG->Prop}(X:K.In s.heap)(I:InstAt s.heap x ox C (Y (aaR es n)))(a:ox.dict=Y dx)(i:aeJ K (.ref C) "__setattr__" = Y (Y (.builtin "object.__setattr__")))(f:anq K C=W)(j:ak1 K C name=Y LA)(b:ajM K C=W)(e:(alb name es).isSome=W)(l:es.length<=900)(h:∀t,Q () {s with heap:=s.heap.update dx (ajP name (aaV w.params name) (.str name t) v),toks:=s.toks+2}): wpAny (LS prog w) A (anF (.ref x) name v) Q E s:=ao5 X I i (aeB (s:={s with toks:=s.toks+1}) X I a f j b e l (h _))
end
noncomputable def O.wH:O->Bool | .bi _=>LB|_=>W
theorem Rel.handed(r:Rel V h v x)(k:x.wH=W):handedIn v=W:=by cases r<;>first|rfl|exact bL k
structure jH (K:aeb) (C:LP):Prop where
 get:aoo K C "" = W
 set:aeJ K (.ref C) "__setattr__" = Y (Y (.builtin "object.__setattr__"))
 over:anq K C=W
 dict:ajM K C=W
def tD(K:aeb)(C:LP)(n:Str):Prop:=aeJ K (.ref C) n=Y LA/\ak1 K C n=Y LA
section
variable{c:GC}{f:Fc}{l:Lc}{σ ain:Sg}{s s':LG}{Q Q':QV}{X X':QX}
theorem ik{pv:LP->Prop}(G:Rg c n pv fr A σ s):c.K.In s.heap:=c.KX.keeps G.stays
theorem Qz{E:LD->LG->Prop}{P:LD->LG->Prop}(X0:c.K.In s.heap)(e1:s.heap.get? x=Y (ajN C dx))(e2:s.heap.get? dx=Y (aaR es n))(ok:jH c.K C)(b:tD c.K C name)(r:cD V s.heap es fs)(e:fs.lookup name=Y y)(i:y.wH=W)(h:∀v,Rel V s.heap v y->P v {s with toks:=s.toks+1}): wpAny (LS c.prog c.w) A (alE (.ref x) name expr) P E s:=by
 refine aM (cD.find name r e) λv a rv=>?_;exact get_value X0 (I:=⟨e1,rfl,rfl,e2⟩) (od:=Y (aaR es n)) (aod (name:="") ok.get).1 (findObj_own ok.dict b.1 (by rfl) (by rw[aoe];exact a)) (rv.handed i) (h v rv)
theorem Wi(m:σ.H[k]?=Y (.inst C fs))(ok:jH c.K C)(i:tD c.K C name)(p:fs.lookup name=Y y)(w:y.wH=W)(h:Q y σ): qW c f (λv=>alE v name b) (.ref k) l σ Q X:=λv s a r=>by
 refine r.jo λ_=>?_;refine nL (a.g.objs k _ m) λe d es n e2 g j r=>?_;exact Qz (ik a.g) g j ok i r p w λv rv=>dF a rv h
theorem Wg(ok:jH c.K C)(e:tD c.K C name)(j:fs.lookup name=Y y)(m:y.wH=W)(h:Q y σ): qW c f (λv=>alE v name b) (.obj C fs) l σ Q X:=λv s a r=>by
 refine r.Iz λ_ _ _ _ _ _ g i r=>?_;exact Qz (ik a.g) g i ok e r j m λv rv=>dF a rv h
def Av(c:GC)(f:Fc)(t:LD->LD->Sem Unit)(x y:O)(l:Lc)(σ:Sg)(Q:Sg->Prop)(X:QX):Prop :=∀v w s,R c f l σ s->Rel (σ.V f.pv) s.heap v x->Rel (σ.V f.pv) s.heap w y->wpAny (LS c.prog c.w) f.A (t v w) (λ_ s'=>J7 c f l σ s Q s') (dH c f σ s λl' x ain=>l'=l/\X x ain) s
theorem RX{g:Obj->Obj}(p:R c f l σ s)(x:σ.H[k]?=Y m₀)(h:σ.σ d=Y (k,b))(e:s.heap.get? d=Y (aaR es n))(i:g (aaR es n)=aaR es' n')(ok:∀h',h'.get? d=Y (aaR es' n')->abi d s.heap h'->Go (σ.V f.pv) s.heap (σ.V f.pv) h'->Ok c.w.params σ (σ.V f.pv) h' k m)(t:Nat): R c f l (σ.put k m) {s with heap:=s.heap.update d g,toks:=t}/\aJ f.P f.pv σ s.heap (σ.put k m) (s.heap.update d g):=by
 have a:(s.heap.update d g).get? d=Y (aaR es' n'):=by rw[←i];exact aji _ e (by rw[i];rfl)
 have sb:=alA s.heap d g;have j:σ.σ d≠LA:=by rw[h];simp
 exact⟨(p.put x sb h (ok _ a sb (Go.sameBut sb (.inl j))) ⟨_,a⟩).tok t,aJ.put sb j⟩
theorem WT{Q:Sg->Prop}(p:σ.H[k]?=Y (.inst C fs))(ok:jH c.K C)(A:tD c.K C name)(B:fs.length<=900)(h:∀x:Sg,x.H=σ.H.set k (.inst C (cy name y fs))->Q x):Av c f (λv w=>anF v name w) (.ref k) y l σ Q X:=λv w s i r D=>by
 refine r.jo λ_=>?_;refine nL (i.g.objs k _ p) λe d es n e2 g j r=>?_;refine agm (ik i.g) (I:=⟨g,rfl,rfl,j⟩) rfl ok.set ok.over A.2 ok.dict (r.Oi name) (by rw[r.length];exact B) λt=>?_;obtain⟨a,b⟩:=RX (m:=.inst C (cy name y fs)) (g:=ajP name (aaV c.w.params name) (.str name t) w) i p e2 j (alm _ _ _ _ _ _) (λh' z sb go =>
  ⟨e,d,_,_,e2,(sb.2 _ λq=>by rw[show σ.μ k=d from q,e2]at e;cases e).trans g,z,cD.put (D.go go) (r.go go)⟩) (s.toks+2)
 exact⟨_,a,b,h _ rfl⟩
end
theorem agY(e:LF)(o i:LD):∃f,subscripted e LB o i=operate f (amb o i):=by
 cases e<;>first|exact⟨_,rfl⟩|skip
 rename_i a b st p
 cases st<;>exact⟨_,rfl⟩
section
variable{prog:ajI}{w:ac9}{A:adh}{E:LD->LG->Prop}{s:LG}
theorem qJ{b a:LF}{o i:LD}{T id:String}{Q:LD->LG->Prop}(e:s.TypeIs o T)(j:aoG (.type T) "__getitem__" = pure (Y (.builtin id)))(f:wpAny (LS prog w) A (amb o i) Q E s):wpAny (LS prog w) A (ajn b a o i) Q E s:=
 let ⟨_,h⟩:=agY a o i
 tail_any e j f h
end
noncomputable def pj(xs:List O)(lo hi st:Option Int):List O :=(aoH (ajQ lo hi st xs.length).1 (ajQ lo hi st xs.length).2.1 (ajQ lo hi st xs.length).2.2).filterMap (xs[·]?)
theorem bh.pick(r:bh V h vs xs):∀(is:List Nat),bh V h (is.filterMap (vs[·]?)) (is.filterMap (xs[·]?))
 | []=>.nil
 |i::is=>by
  simp only[akK];cases q:xs[i]? with
  |none =>
   have:vs[i]?=LA:=by
    rw[VS]at q ⊢;rw[r.length];exact q
   rw[this];exact r.pick is
  |some x =>
   refine aM (r.get q) λv e rv=>?_;rw[e];exact .cons rv (r.pick is)
section
variable{c:GC}{f:Fc}{l:Lc}{σ ain:Sg}{s s':LG}{Q Q':QV}{X X':QX}
theorem Yv(h:bF c f value l σ (λx e=>bF c f slice l e (λy i=>bY c f (ajn value slice) x y l i Q X) X) X):bF c f (.Subscript value slice pos) l σ Q X:=λs D => Subscript_ (dc (h s D) (λv m x e rv j a z=>dc (z m j) (λw A y i rw B b C => VL (C v w A B (rv.step b j.own) rw) (λ_ _ p=>p.after (a.trans b)) λ_ _ p=>p.after (a.trans b)) λ_ _ p=>p.after a) λ_ _ p=>p)
theorem ad8{i n:Int}(h:0<=i+n): -n<=i:=by lia
theorem idx_int(e:aeO i n=Y j):(0<=i/\j=i.toNat/\j < n)∨(i < 0 /\ -(n:Int)<=i/\j=(i+n).toNat/\j < n):=by
 unfold aeO at e;by_cases h:i < 0
 .rw[VD h]at e;exact PK e λq e=>aY q λa b=>.inr ⟨h,ad8 (aai a),e.symm,e▸(apk (aai a)).mpr (aai b)⟩
 .rw[QE h]at e;exact PK e λq e=>aY q λa b=>.inl ⟨aai a,e.symm,e▸(apk (aai a)).mpr (aai b)⟩
theorem list_item{b:ajI}{w:ac9}{A:adh}{E:LD->LG->Prop}{s:LG}{a:LP}{vs:List LD}{n:Nat}{o:Obj}{i:Int}{t:Tok}{j:Nat}{v:LD}{P:LD->LG->Prop}(g:s.heap.get? a=Y o)(y:o.cls = .type "list")(z:o.data = .seq vs.toArray n)(e:aeO i vs.length=Y j)(lo : -(2 ^ 63)<=i)(hi:i < 2 ^ 63)(x:vs[j]?=Y v)(h:P v s):wpAny (LS b w) A (amb (.ref a) (.int i t)) P E s:=by
 have p:s.heap.IsList a vs.toArray:=⟨o,g,y,n,z⟩;rcases idx_int e with ⟨m,rfl,_⟩|⟨m,h1,rfl,_⟩
 .exact wpAny_getItem_list p m hi (by simpa using x) h
 .exact wpAny_getItem_list_neg p m (by simpa using h1) lo (by simpa using x) h
theorem Xd(e:aeO i xs.length=Y j)(lo : -(2 ^ 63)<=i)(hi:i < 2 ^ 63)(p:xs[j]?=Y y)(h:Q y σ): bY c f (ajn value slice) (.tup xs) (.int i) l σ Q X:=λv w s b r x=>by
 refine x.fz λt=>r.tupK λ_ _ _ A g r=>?_;refine aM (r.get p) λu m z=>?_;have a:IsTup s.heap _ _:=⟨_,g,rfl,_,rfl⟩;exact qJ a.typeIs akR.lookup (getItem_tuple a lo hi (by rw[QD,r.length];exact e) (by simpa using m) (dF b z h))
theorem Xa{b a:LF}{xs:List O}{i:Int}{j:Nat}{y:O}(e:aeO i xs.length=Y j)(lo : -(2 ^ 63)<=i)(hi:i < 2 ^ 63)(z:xs[j]?=Y y)(h:Q y σ): bY c f (ajn b a) (.lst xs) (.int i) l σ Q X:=λv w s m r A=>by
 refine A.fz λt=>r.lstK λ_ _ _ C g r=>?_;refine aM (r.get z) λu x B=>?_;have p:s.heap.IsList _ _:=⟨_,g,rfl,_,rfl⟩;exact qJ p.typeIs alY.lookup (list_item g rfl rfl (by rw[r.length];exact e) lo hi x (dF m B h))
theorem Xb{b a:LF}{k:Nat}{xs:List O}{i:Int}{j:Nat}{y:O}(p:σ.H[k]?=Y (.lst xs))(e:aeO i xs.length=Y j)(lo : -(2 ^ 63)<=i)(hi:i < 2 ^ 63)(A:xs[j]?=Y y)(h:Q y σ): bY c f (ajn b a) (.ref k) (.int i) l σ Q X:=λv w s m r B=>by
 refine B.fz λt=>r.jo λ_=>?_;refine dD (m.g.objs k _ p) λ_ vs n g r=>?_;refine aM (r.get A) λu z C=>?_;have x:s.heap.IsList _ vs.toArray:=⟨_,g,rfl,_,rfl⟩;exact qJ x.typeIs alY.lookup (list_item g rfl rfl (by rw[r.length];exact e) lo hi z (dF m C h))
theorem Xc(lo : -(2 ^ 63)<=i)(hi:i < 2 ^ 63)(e:(aeO i x.length).bind (x.cps[·]?)=Y ch)(h:Q (.str ⟨#[ch]⟩) σ): bY c f (ajn value slice) (.str x) (.int i) l σ Q X:=λv w s a r b=>by
 refine b.fz λt=>r.jG λj=>?_;exact qJ (aoI s x j) aop.lookup (apl (by simp;lia) e (dF a (.str _ _) h))
theorem Ia{P:ajI}{w:ac9}{V:Vw}{h h':VG}{a:LP}{es:List QA}{n:Nat}{fs:List (Str×O)}(e:h'.get? a=Y (aaR es n))(r:cD V h es fs)(b:KeysLit w.params es): h'.MapOf (strKind P w) a (λk=>aoJ ajo es.toArray k):=
 ⟨_,es.toArray,n,e,⟨rfl,rfl,rfl⟩,rfl,λe he=>by
  refine pg (b.all e (by simpa using he)) λx t e1 e2=>?_;exact⟨x,by rw[e1];exact akg P w x t,e2⟩,λ_=>rfl⟩
theorem yF(name:Str)(es:List QA)(v:Option LD)(e:alb name es=Y v):aoJ ajo es.toArray name=v:=by
 have q:(λd:QA=>ajo name d.key)=λd=>d.key.isStr name:=funext λd=>(isStr_of name d.key).symm;unfold aoJ;rw[List.find?_toArray,q];unfold alb at e;cases h':es.find? (·.key.isStr name) with
 |some e'=>rw[h']at e;exact LC e
 |none=>rw[h']at e;exact Qf (P:=(· = Y v)) e (λ_ e=>bR e) λ_ e=>LC e
theorem WZ{b a:LF}{k:Nat}{fs:List (Str×O)}{x:Str}{y:O}(i:σ.H[k]?=Y (.bD fs))(m:fs.lookup x=Y y)(h:Q y σ): bY c f (ajn b a) (.ref k) (.str x) l σ Q X:=λv w s e r z=>by
 refine z.jG λt=>r.jo λ_=>?_;refine zO (e.g.objs k _ i) λ_ es n g r p _=>?_;refine aM (r.find x m) λu j A=>?_;have hm:=Ia (P:=c.prog) g r p;exact qJ hm.typeIs anW.lookup (aoq (akg _ _ x t) hm (yF _ _ _ j) (dF e A h))
set_option genCtorIdx true in
inductive AK where
 |int (i:Int)|str (s:Str)
 deriving DecidableEq
noncomputable def AK.av:AK->O | .int i=>.int i | .str s=>.str s
inductive tP:O->Option Int->Prop
 |none:tP .none LA
 |int (i:Int):tP (.int i) (Y i)
def vA(c:GC)(f:Fc)(e:Option LF)(l:Lc)(σ:Sg)(Q:QV)(X:QX):Prop:=j4 c f (evalPart e f.env) l σ Q X
theorem YH(h:Q .none σ):vA c f LA l σ Q X:=λs a=>wpAny_pure (dF a .none h)
theorem YI{e}(h:bF c f e l σ Q X):vA c f (Y e) l σ Q X:=h
theorem HD(r:Rel V h v x)(p:tP x o):ame v o:=by cases p<;>cases r<;>constructor
def vr(c:GC)(f:Fc)(b a:LF)(x:O)(lo hi st:Option Int)(l:Lc)(σ:Sg)(Q:QV)(X:QX):Prop :=∀v sl e h vs s,R c f l σ s->Rel (σ.V f.pv) s.heap v x->s.heap.IsSliceOf sl e h vs->ame e lo->ame h hi->ame vs st -> wpAny (LS c.prog c.w) f.A (ajn b a v (.ref sl)) (jv c f l σ s Q) (dH c f σ s λl' x ain=>l'=l/\X x ain) s
theorem Yt{j:LF}{e i step:Option LF}{p pos:Pos}(h:bF c f j l σ (λx E=>vA c f e l E (λa G=>vA c f i l G (λb C=>vA c f step l C (λd z => ∃lo hi st,tP a lo/\tP b hi/\tP d st/\vr c f j (.Slice e i step p) x lo hi st l z Q X) X) X) X) X):bF c f (.Subscript j (.Slice e i step p) pos) l σ Q X:=λs hR =>
 Subscript_ (dc (h s hR) (λv T x E rv H m Z=>wpAny_Slice (dc (Z T H) (λvl aiv a G ra I w aiy =>
  dc (aiy aiv I) (λvu L b C rb D y N=>dc (N L D) (λvs S d z rd M A B=>by
   refine ph B λlo hi st p1 p2 p3 B=>?_;have P:=(rv.step w H.own).step y I.own |>.step A D.own
   have S5:=aJ.push (P:=f.P) (pv:=f.pv) (σ:=z) S.heap { cls:=.type "slice",data:=.fields #[vl,vu,vs]};refine VL (B v _ vl vu vs _ (M.push _) (P.go (Go.stays (gH _ _))) (apW ..) (HD ra p1) (HD rb p2) (HD rd p3)) (λ_ _ p=>?_) λ_ _ p=>?_
   .exact qX.after ((((m.trans w).trans y).trans A).trans S5) p
   .exact gJ.after ((((m.trans w).trans y).trans A).trans S5) p) λ_ _ p=>p.after ((m.trans w).trans y)) λ_ _ p=>p.after (m.trans w)) λ_ _ p=>p.after m) ) λ_ _ p=>p)
theorem Il(a:R c f l σ s)(r:bh (σ.V f.pv) s.heap vs xs)(h:Q (.lst xs) σ): jv c f l σ s Q (.ref s.heap.objs.size) {s with heap:=s.heap.push {cls:=.type "list",data:=.seq vs.toArray} }:=⟨.lst xs,σ,.lst (a.g.wI (LL _)) (VU _ rfl) (r.go (Go.stays (gH _ _))),a.push _,aJ.push _ _,h⟩
theorem Th{i b:LF}{xs:List O}{vs:List LD}{a sl:LP}{o:Obj}{n:Nat}{lo hi st:Option Int}{p y j:LD}{s:LG}(B:R c f l σ s)(g:s.heap.get? a=Y o)(C:o.cls = .type "list")(D:o.data = .seq vs.toArray n)(r:bh (σ.V f.pv) s.heap vs xs)(E:s.heap.IsSliceOf sl p y j)(H:ame p lo)(I:ame y hi)(L:ame j st)(z:st≠Y 0)(G:xs.length<=WE)(h:Q (.lst (pj xs lo hi st)) σ): wpAny (LS c.prog c.w) f.A (ajn i b (.ref a) (.ref sl)) (jv c f l σ s Q) (dH c f σ s λl' x ain=>l'=l/\X x ain) s:=by
 have m:s.heap.IsList a vs.toArray:=⟨_,g,C,_,D⟩;have M:=r.pick (aoH (ajQ lo hi st xs.length).1 (ajQ lo hi st xs.length).2.1 (ajQ lo hi st xs.length).2.2);refine qJ m.typeIs alY.lookup (wpAny_getItem_list_slice m E H I L z ?_ (by rw[QD,r.length];exact G));have e:slicePick vs.toArray lo hi st=((aoH (ajQ lo hi st xs.length).1 (ajQ lo hi st xs.length).2.1 (ajQ lo hi st xs.length).2.2).filterMap (vs[·]?)).toArray:=by
  unfold slicePick;rw[QD,r.length];simp
 rw[e];exact Il B M h
theorem V7{b a:LF}{xs:List O}{lo hi st:Option Int}(e:st≠Y 0)(m:xs.length<=WE)(h:Q (.lst (pj xs lo hi st)) σ):vr c f b a (.lst xs) lo hi st l σ Q X:=λv sl z A vs s i r j p w x=>by
 refine r.lstK λ_ _ _ y g r=>?_;exact Th i g rfl rfl r j p w x e m h
theorem V8{b a:LF}{k:Nat}{xs:List O}{lo hi st:Option Int}(j:σ.H[k]?=Y (.lst xs))(i:st≠Y 0)(p:xs.length<=WE)(h:Q (.lst (pj xs lo hi st)) σ):vr c f b a (.ref k) lo hi st l σ Q X:=λv sl z A vs s e r m w x y=>by
 refine r.jo λ_=>?_;refine dD (e.g.objs k _ j) λ_ vs n g r=>?_;exact Th e g rfl rfl r m w x y i p h
noncomputable def picked(x:Str)(lo hi st:Option Int):List Nat:=Builtin.Str.strSliceIndices lo hi (st.getD 1) x.length
def z9(x:Str)(lo hi st:Option Int):Str:=if (st.getD 1 == 1&&(picked x lo hi st).length == x.length)=W then x else⟨((picked x lo hi st).filterMap (x.cps[·]?)).toArray⟩
theorem IK(p:ame v o):∃q,v=partValue q/\q.map (·.1)=o:=by cases p with|none=>exact⟨LA,rfl,rfl⟩|int i t=>exact⟨Y (i,t),rfl,rfl⟩
theorem V9{e b:LF}{x:Str}{lo hi st:Option Int}(z:(st.getD 1 == 0)=LB)(j:(z9 x lo hi st).length<=WE)(h:Q (.str (z9 x lo hi st)) σ):vr c f e b (.str x) lo hi st l σ Q X:=λv sl G H vs s w r A B C D=>by
 refine r.jG λt=>?_
 .refine aM (IK B) λm a e1=>?_;subst a;refine aM (IK C) λp a e2=>?_;subst a;refine aM (IK D) λi a y=>?_;subst a;subst e1 e2 y;refine qJ (aoI s x t) aop.lookup (wpAny_getItem_str_slice A z ?_);unfold z9 at h j;unfold sliceMade;have E:slicePicked x m p i=picked x (m.map (·.1)) (p.map (·.1)) (i.map (·.1)):=rfl;rw[E];by_cases q:((i.map (·.1)).getD 1 == 1&&(picked x (m.map (·.1)) (p.map (·.1)) (i.map (·.1))).length == x.length)=W
  .rw[VD q]at h;rw[VD q];exact⟨_,σ,.str _ _,w,.refl,h⟩
  .rw[QE q]at h j;rw[QE q];exact⟨j,dF w (.str _ _) h⟩
end
structure lT (base:VG) (l:List Env) (e:LP) (cls fl:LD) (h h':VG):Prop where
 stays:base.StaysIn h'
 frames:h'.FunFrames base l
 lP:fV base e cls fl h'
 keep:∀b o,h.get? b=Y o->∃o',h'.get? b=Y o'/\o'.cls=o.cls/\DN o o'/\(gY o->o'.data=o.data/\(b∉l.filterMap (·.frame)->o'=o))
 gn:∀b o,h.get? b=Y o->b≠e->o.cls ≠ .type "traceback" -> b∉l.filterMap (·.frame)->h'.get? b=Y o
theorem lT.trans(x:lT base l e cls fl h h1)(y:lT base l e cls fl' h1 h2):lT base l e cls fl' h h2 :=
 ⟨y.stays,y.frames,y.lP,λb o hb=>by
  refine qB (x.keep b o hb) λA e1 p d1 a=>?_;refine qB (y.keep b A e1) λB e2 w z j=>?_;refine⟨B,e2,w.trans p,d1.trans z,λf=>⟨(j (f.of (a f).1)).1.trans (a f).1,λq=>?_⟩⟩;rw[(j (f.of (a f).1)).2 q];exact(a f).2 q,λb o hb n i m=>y.gn b o (x.gn b o hb n i m) n i m⟩
theorem adL(o:Obj)(g):(agT g o).dict=o.dict:=by obtain⟨c,d,dt,sl⟩:=o;cases dt<;>rfl
theorem QT(o:Obj)(g):DN o (agT g o):=⟨adL o g,λz=>by obtain⟨c,d,dt,sl⟩:=o;cases dt<;>first|exact z|rfl⟩
section
variable{M:al3}{A:adh}{E:LD->LG->Prop}{s:LG}{base:VG}{l:List Env}
theorem Sw{P:Unit->LG->Prop}(Q:s.heap.FunFrames base l)(D:base.StaysIn s.heap)(he:s.heap.get? e=Y oe)(L:oe.cls=cls)(N:oe.data = .fields vs)(h1:vs[1]?=Y (.ref T))(C:base.get? T=LA)(x:T≠e)(p:s.heap.get? T=Y oT)(y:oT.cls = .type "traceback")(jN:oT.data = .fields ts)(I:ts[3]?=Y fl)(h:∀h',lT base l e cls fl' s.heap h'->(∀b,b≠T->h'.get? b=s.heap.get? b)->P () {s with heap:=h'}):wpAny M A (setField (.ref T) 3 fl') P E s:=by
 have B:=(akH.mp I).1;refine wpAny_setField p jN B (h _ ?_ λb hb=>aks _ _ (aaU hb));have a:∀b,b≠T->(s.heap.update T (agT (·.setIfInBounds 3 fl'))).get? b=s.heap.get? b:=λb hb=>aks _ _ (aaU hb);have f:∀b o,s.heap.get? b=Y o->gY o->b≠T:=λb o hb m q=>by
  rw[q,p]at hb;injection hb with hb;subst hb;exact m ts jN
 have H:=anr jN (·.setIfInBounds 3 fl');have w:=aji (agT (·.setIfInBounds 3 fl')) p (amS H);refine⟨λb o j=>(a b λq=>by rw[q,C]at j;exact bR j).trans (D b o j),Q.of_keeps λb o hb m=>⟨o,(a b (f b o hb m)).trans hb,rfl⟩,
  ⟨oe,vs,T,_,_,(a e (aaU x)).trans he,L,N,h1,C,x,w,(ak3 _ _).trans y,H,by simp[B]⟩,λb o hb=>?_,λb o hb _ i _=>(a b λq=>by
   rw[q,p]at hb;have G:=LC hb;clear hb;subst G;exact i y).trans hb⟩
 by_cases q:b=T
 .subst q;rw[p]at hb;have G:=LC hb;clear hb;subst G;exact⟨_,w,ak3 _ _,QT _ _,λz=>(z ts jN).elim⟩
 .exact⟨o,(a b q).trans hb,rfl,.refl,λ_=>⟨rfl,λ_=>rfl⟩⟩
theorem Td{P:Unit->LG->Prop}(y:s.heap.FunFrames base l)(i:base.StaysIn s.heap)(z:fV base e cls fl s.heap)(h:∀h',lT base l e cls (fr.elim .none λf=>rawInt f) s.heap h'->P () {s with heap:=h'}):wpAny M A (ao6 (.ref e) fr) P E s:=by
 refine CV z λC vs T B ts he x m h1 j a w b jN p=>?_;unfold ao6;refine wpAny_bind (ajD he m h1 ?_);rw[VD (show(aaS T != akC)=W from by simp)];exact Sw y i he x m h1 j a w b jN p λh' L _=>h h' L
theorem Q6{Q:Unit->LG->Prop}
  (fy:A.frames=Y (env::outer)) (Z:s.heap.FunFrames base (env::outer)) (hf:env.frame=Y L)
  (he:s.heap.get? e=Y oe) (hkb:base.StaysIn s.heap) (hen:base.get? e=LA) (N:oe.data = .fields vs) (T:1 < vs.size)
  (h:∀h',lT base (env::outer) e oe.cls (rawInt L) s.heap h'->Q () {s with heap:=h'}) :
  wpAny M A (do let a ←frameOf env;let pl ←entryPlaceOf L I;let b ←ani head a .none (rawInt L) .none pl;setField (.ref e) 1 b) Q E s:=by
 have S:e∉(env::outer).filterMap (·.frame):=λhm=>by
  refine vd (Z.mem hm) λ_ o ho w=>?_;rw[he]at ho;injection ho with ho;subst ho;exact w vs N
 refine wpAny_bind (wpAny_frameOf_fun fy Z hf λait p=>?_);refine wpAny_bind (wpAny_entryPlaceOf λpl hpl=>?_);unfold ani newFields;refine wpAny_bind (akw ?_ (hpl.sizeOk5 _ _ _ _ _));have C:ait.get? e=Y oe:=(p.2.1 e S).trans he;have D:base.StaysIn ait:=λb o j=>(p.2.1 b λhm=>by rw[(Z.mem hm).1]at j;exact bR j).trans (hkb b o j);generalize hT:({ cls:=.type "traceback",dict:=LA,data:=.fields ([head,.ref L,.none,rawInt L,.none]++(if pl.isEmpty then amT 6 akC else pl)).toArray}:Obj)=y;have hTc:y.cls = .type "traceback":=by rw[←hT]
 have hTd:y.data = .fields ([head,.ref L,.none,rawInt L,.none]++(if pl.isEmpty then amT 6 akC else pl)).toArray:=by rw[←hT]
 have G:=UB (h:=ait) y C;refine wpAny_setField G N T (h _ ?_);have H:ait.objs.size≠e:=ans (VQ C);have z:=anr N (·.setIfInBounds 1 (aaS ait.objs.size));have B:=aji (agT (·.setIfInBounds 1 (aaS ait.objs.size))) G (amS z);have ai5:=(aks (ait.push y) (agT (·.setIfInBounds 1 (aaS ait.objs.size))) (aaU H)).trans (VU ait (by rw[←hT];rfl));have f:∀b o,ait.get? b=Y o->b≠e->((ait.push y).update e (agT (·.setIfInBounds 1 (aaS ait.objs.size)))).get? b=Y o:=λb o hb x=>by
  rw[aks _ _ (aaU x)];exact UB _ hb
 have X:∀b o,s.heap.get? b=Y o->gY o->b≠e:=λb o hb w q=>by
  rw[q,he]at hb;injection hb with hb;subst hb;exact w vs N
 refine⟨λb o j=>f b o (D b o j) λq=>by rw[q,hen]at j;exact bR j,Z.of_keeps λb o hb w=>?_,?_,λb o hb=>?_,λb o hb nt i m=>?_⟩
 .refine LJ (p.2.2 b o hb) λsl hs=>?_;exact⟨_,f b _ hs (X b o hb w),rfl⟩
 .exact⟨_,_,ait.objs.size,y,_,B,ak3 _ _,z,by simp[T],D.fresh,H,ai5,hTc,hTd,by simp⟩
 .refine LJ (p.2.2 b o hb) λsl hs=>?_;by_cases x:b=e
  .subst x;rw[he]at hb;have zq:=LC hb;clear hb;subst zq;exact⟨_,B,ak3 _ _,QT _ _,λq=>(q vs N).elim⟩
  .refine⟨_,f b _ hs x,rfl,⟨rfl,id⟩,λq=>⟨rfl,λnm=>?_⟩⟩;have:=p.2.1 b nm;rw[hs,hb]at this;exact LC this
 .exact f b o ((p.2.1 b m).trans hb) nt
theorem lT.refl(a:base.StaysIn h)(f:h.FunFrames base l)(i:fV base e cls fl h):lT base l e cls fl h h:=⟨a,f,i,λb o e=>⟨o,e,rfl,.refl,λ_=>⟨rfl,λ_=>rfl⟩⟩,λb o e _ _ _=>e⟩
theorem Rr{Q:Unit->LG->Prop}(fy:A.frames=Y (env::outer))(I:s.heap.FunFrames base (env::outer))(H:env.frame=Y L)(he:s.heap.get? e=Y oe)(p:base.StaysIn s.heap)(G:base.get? e=LA)(i:oe.data = .fields vs)(h1:vs[1]?=Y .none∨fV base e oe.cls .none s.heap∨fV base e oe.cls (rawInt L) s.heap)(h:∀h',lT base (env::outer) e oe.cls (rawInt L) s.heap h'->Q () {s with heap:=h'}):wpAny M A (alL (.ref e) env) Q E s:=by
 unfold alL;simp only[H];rcases h1 with h1|h1|h1
 .refine wpAny_bind (ajD he i h1 ?_);rw[QE (by decide)];exact Q6 fy I H he p G i (akH.mp h1).1 h
 .refine CV h1 λN S T X ts b j a h1 w f D m jN C=>?_;rw[he]at b;have B:=LC b;clear b;subst B;rw[i]at a;have B:=aln a;clear a;subst B;refine wpAny_bind (ajD he i h1 ?_);rw[VD (show(aaS T != akC)=W from by simp)];refine wpAny_bind (ajD D jN C ?_);rw[QE (show ¬((akC == rawInt L)=W) from by simp[rawInt])];refine wpAny_bind (Sw (l:=env::outer) I p he rfl i h1 w f D m jN C λZ x z=>?_);exact Q6 fy x.frames H ((z e (aaU f)).trans he) x.stays G i (akH.mp h1).1 λh' y=>h h' (x.trans y)
 .refine CV (id h1) λN S T X ts b j a h1 w f D m jN C=>?_;rw[he]at b;have B:=LC b;clear b;subst B;rw[i]at a;have B:=aln a;clear a;subst B;refine wpAny_bind (ajD he i h1 ?_);rw[VD (show(aaS T != akC)=W from by simp)];refine wpAny_bind (ajD D jN C ?_);rw[VD (by simp)];exact wpAny_pure (h s.heap (.refl p I ⟨oe,vs,T,X,ts,he,j,i,h1,w,f,D,m,jN,C⟩))
theorem adt{Q:Unit->LG->Prop}(fy:A.frames=Y (env::outer))(m:s.heap.FunFrames base (env::outer))(j:env.frame=Y L)(he:s.heap.get? e=Y oe)(b:base.StaysIn s.heap)(a:base.get? e=LA)(i:oe.data = .fields vs)(h1:vs[1]?=Y .none∨fV base e oe.cls .none s.heap∨fV base e oe.cls (rawInt L) s.heap)(h:∀h',lT base (env::outer) e oe.cls .none s.heap h'->Q () {s with heap:=h'}):wpAny M A (ao1 env (.ref e)) Q E s:=by
 unfold ao1;refine wpAny_bind (Rr fy m j he b a i h1 λf x=>?_);exact Td (fr:=LA) x.frames x.stays x.lP λh' y=>h h' (x.trans y)
end
structure Ent (h0:VG) (env:Env) (binds:List (Str×LD)) (h1:VG):Prop where
 stays:h0.StaysIn h1
 ns:∃m,h1.Ns env.locals m
 vars:∀p∈binds,fD env h1 p.1 p.2
 above:∀b,(b=env.locals∨b∈env.cells.map (·.2))->h0.objs.size<=b/\∃o,h1.get? b=Y o/\gY o
 iS:∀b∈env.cells.map (·.2),∃v,h1.IsCell b v
 nd:(env.locals::env.cells.map (·.2)).Nodup
noncomputable def sub(A:adh)(env:Env)(fr:List Env)(n:Nat)(pv:LP->Prop):Fc:=⟨A.deeper env,env,env::fr,n,λb=>pv b∨b=env.locals∨b∈env.cells.map (·.2)⟩
section
variable{c:GC}{n:Nat}{pv:LP->Prop}{fr:List Env}{A:adh}{σ ain:Sg}{s s':LG}{env:Env}{binds:List (Str×LD)}{Q:QV}{X:QX}
theorem Go.enter(G:Rg c (n+1) pv fr A σ s)(e:Ent s.heap env binds h1):Go (σ.V pv) s.heap (σ.V (sub A env fr n pv).pv) h1 :=
 ⟨LL _,λ_ _=>rfl,λb o a t q=>by
  rcases q with q|q|q
  .exact t (.inl q)
  .exact t (.inr q)
  .exact absurd (VQ a) (aj2.mpr (e.above b q).1),λb o a _ _=>⟨o,e.stays b o a,.rfl⟩⟩
theorem Go.EP{pv a:LP->Prop}(k:∀b,pv b->a b):Go (σ.V a) h (σ.V pv) h :=⟨LL _,λ_ _=>rfl,λb o _ t q=>t (q.elim .inl λz=>.inr (k b z)),λb o e _ _=>⟨o,e,.rfl⟩⟩
theorem Ok.go(go:Go V h V' h')(k:∀a q,σ.σ a=Y q->∀o,h.get? a=Y o->Rv o->h'.get? a=Y o)(x:Ok Ps σ V h i m):Ok Ps σ V' h' i m:=by
 cases m with
 |lst xs=>refine dD x λe vs n g r=>?_;exact⟨e,vs,n,k _ _ e _ g (.inl (sW rfl)),r.go go⟩
 |bD fs=>refine w4 x λe es n g r q=>?_;exact⟨e,es,n,k _ _ e _ g (.inl λ_ q=>by exact lz q),r.go go,q⟩
 |inst C fs=>refine nL x λe d es n e2 g f r=>?_;exact⟨e,d,es,n,e2,k _ _ e _ g (.inl λ_ q=>by cases q),k _ _ e2 _ f (.inl λ_ q=>by exact lz q),r.go go⟩
 |exc C fs=>refine dD x λe t b g r=>?_;exact⟨e,t,b,k _ _ e _ g (.inr ⟨_,rfl⟩),r.move go (λ_ _ z=>z) λ_ _ o z w n=>k _ _ z o w (.inl n)⟩
 |dead=>trivial
theorem adU{b:List Str}:∀{vs:List LD}{xs:List O}{V:Vw}{h:VG},bh V h vs xs->∀p∈b.zip xs,∃v,(p.1,v)∈b.zip vs/\Rel V h v p.2:=by
 induction b with
 |nil=>intro vs xs V h r p m;exact fj m
 |cons n b e =>
  intro vs xs V h r p m;induction xs using cL with
  |nil=>exact fj m
  |cons x xs =>
   refine r.A5 λv us a r=>?_;rcases VM.mp m with rfl|m
   .exact⟨_,.head _,a⟩
   .exact(e r p m).imp λv q=>⟨.tail _ q.1,q.2⟩
theorem aaq{a n:Nat}(h:a+3 * (n+1)<=950):a+1+3 * n<=950:=by lia
theorem ahA{a n:Nat}(h:a+30 * (n+1)<=9000):a+3+30 * n<=9000:=by lia
theorem enter(G:Rg c (n+1) pv fr A σ s){z:List Str}{h:List LD}{xs:List O}(r:bh (σ.V pv) s.heap h xs){h1:VG}{t:Nat}(e:Ent s.heap env (z.zip h) h1)(w:env.scope.kind = .function)(l:env.frame=Y env.locals)(B:env.globals=ajp)(hb:env.builtins=al2):R c (sub A env fr n pv) (z.zip xs) σ {s with heap:=h1,toks:=t}:=by
 have go:=Go.enter G e;refine LJ e.ns λm hm=>?_;have E:∀b,(b=env.locals∨b∈env.cells.map (·.2))->c.base.get? b=LA:=λb q=>G.mS (e.above b q).1;refine⟨⟨λb o p=>e.stays b o (G.stays b o p),?_,?_,?_,?_,?_,?_,?_,?_,λa q=>(nJ (G.own a q) λx o y=>⟨x,o,e.stays a o y⟩),G.gens,G.os⟩,⟨m,hm⟩,λx y C=>?_,e.iS,λb q=>.inr q,e.nd,w,B,hb,env,fr,env.locals,rfl,l,l⟩
 .exact apV (by rw[w];decide) l hm (E _ (.inl rfl)) (G.frames.of_keeps λb o p _=>⟨o,e.stays b o p,rfl⟩)
 .exact Around.frames_deeper G.stack
 .exact G.hand
 .exact aaq G.depth
 .exact ahA G.units
 .intro env' he L j;rcases VM.mp he with rfl|he
  .rw[l]at j;have H:=LC j;clear j;subst H;exact .inr (.inl rfl)
  .exact .inl (G.fJ env' he L j)
 .intro a q;rcases q with q|q
  .refine hZ (G.dg a q) λx y o i f=>?_;exact⟨x,y,o,e.stays _ _ i,f⟩
  .refine vd (e.above a q) λx o i f=>?_;exact⟨G.sX x,G.mS x,o,i,f⟩
 .exactλk m e'=>(G.objs k m e').go go λa q _ o i _=>e.stays a o i
 .refine aM (adU r (x,y) (mem_of_lookup C)) λv D rv=>?_;exact⟨v,e.vars _ D,rv.go go⟩
theorem aJ.back(G:Rg c (n+1) pv fr A σ s)(e:Ent s.heap env binds h1)(S:aJ (sub A env fr n pv).P (sub A env fr n pv).pv σ h1 ain h'):aJ (λ_=>False) pv σ s.heap ain h' :=
 ⟨S.n,S.mu,λb o j _ q=>by
  have lt:=VQ j;have l:¬(b=env.locals∨b∈env.cells.map (·.2)):=λz=>aj2.mpr (e.above b z).1 lt;refine i4 (S.keep b o (e.stays b o j) l q) λa k i x=>?_;exact⟨a,λr=>aM (k r) λm e' w=>⟨m,e',λf=>⟨(w.1 f).1,λh=>(w.1 f).2 λz=>z.elim h l⟩,w.2⟩,i,x⟩⟩
theorem Rg.back(G:Rg c (n+1) pv fr A σ s)(e:Ent s.heap env binds h1)(f:R c (sub A env fr n pv) l ain s'):Rg c (n+1) pv fr A ain s' where
 stays:=f.g.stays
 frames:=f.g.frames.2.2
 stack:=G.stack
 hand:=G.hand
 depth:=G.depth
 units:=G.units
 fJ:=G.fJ
 dg:=λa q=>f.g.dg a (.inl q)
 objs:=λk m e'=>(f.g.objs k m e').go (Go.EP λb q=>.inl q) λ_ _ _ _ h _=>h
 own:=f.g.own
 gens:=f.g.gens
 os:=f.g.os
theorem dZ.go(T:dZ c fl V h e x)(go:Go V h V' h')(k:∀a i vs,e = .ref a->h.get? a=Y i->i.data = .fields vs->i.cls = .ref x.C->∃b f,h'.get? a=Y b/\b.cls=i.cls/\b.dict=i.dict/\b.data = .fields f /\ (f[1]?=Y .none∨fV c.base a (.ref x.C) .none h'∨fV c.base a (.ref x.C) fl' h')):dZ c fl' V' h' e x:=by
 induction T with
 |mk a d i vs es n m e1 e2 w y B j D l E p =>
  exact(k a i vs m e1 y e2).elim λb z=>z.elim λf z=>⟨a,d,b,f,es,n,m,z.1,z.2.1.trans e2,z.2.2.1.trans w,z.2.2.2.1,B,(go.same l j λ_ q=>by exact lz q).2,go.un a i e1 D,(go.same l j λ_ q=>by exact lz q).1,E.go go,z.2.2.2.2⟩
theorem dZ.lP(T:dZ c fl V h (.ref a) x):∃b vs,h.get? a=Y b/\b.cls = .ref x.C/\b.data = .fields vs/\c.base.get? a=LA/\(vs[1]?=Y .none∨fV c.base a (.ref x.C) .none h∨fV c.base a (.ref x.C) fl h) :=T.el λ_ b vs _ _ e1 e2 _ f i _ _ _ _ e=>⟨b,vs,e1,e2,f,i,e⟩
theorem dZ.wI(T:dZ c fl V h (.ref a) x):¬V.T a:=T.el λ_ _ _ _ _ _ _ _ _ _ _ b _ _ _=>b
theorem H4(e:R c f l σ s)(T:dZ c f.fl (σ.V f.pv) s.heap (.ref a) x)(L:lT c.base f.fr a (.ref x.C) fl s.heap h')(jB:fl = .none∨fl=f.fl): R c f l σ {s with heap:=h'}/\dZ c f.fl (σ.V f.pv) h' (.ref a) x/\aJ f.P f.pv σ s.heap σ h':=by
 refine nM T.lP λoe vs e1 e2 e4 e5 e10=>?_;have np:∀b,¬f.pv b->b∉f.fr.filterMap (·.frame):=λb q z=>by
  refine aM (List.mem_filterMap.mp z) λenv' me he=>?_;exact q (e.g.fJ env' me b he)
 have S:aJ f.P f.pv σ s.heap σ h':=⟨LL _,λ_ _=>rfl,λb o j _ q=>by
  refine qB (L.keep b o j) λh e' c' N w=>?_;exact⟨q,λ_=>⟨h,e',λf=>⟨(w f).1,λz=>(w f).2 (np b z)⟩,λC ec=>⟨c'.trans ec,N⟩⟩,(λi=>L.gn b o j (λz=>by
   rw[z,e1]at j;have B:=LC j;clear j;subst B;refine vd i λ_ T H _=>?_;rw[e2]at H;cases H) (λz=>by
   refine vd i λ_ T H q2=>?_;rw[z]at H;cases H;exact q2 rfl) λz=>by
   refine vd (e.g.frames.mem z) λ_ o2 E Z=>?_;rw[j]at E;have B:=LC E;clear E;subst B;refine bg i λM _=>?_;refine LJ M λI dv=>?_;exact Z I dv),h,e'⟩⟩
 have go:=S.go e.own;have G:Rg c f.n f.pv f.fr f.A σ {s with heap:=h'}:=⟨L.stays,L.frames,e.g.stack,e.g.hand,e.g.depth,e.g.units,e.g.fJ,λb q=>by
   refine hZ (e.g.dg b q) λx y o p w=>?_;refine qB (L.keep b o p) λh e' _ _ w'=>?_;exact⟨x,y,h,e',w.of (w' w).1⟩,λk m e'=>(e.g.objs k m e').go go λb q j o p w=>by
   have nb:b∉f.fr.filterMap (·.frame):=np b λz=>by have:=(e.g.dg b z).1;rw[j]at this;exact fZ this
   rcases w with w|⟨C,w⟩
   .refine qB (L.keep b o p) λh e' _ _ w'=>?_;rw[(w' w).2 nb]at e';exact e'
   .exact L.gn b o p (λz=>T.wI (.inl (by rw[←z,j];simp))) (by rw[w];intro z;cases z) nb,λb q=>⟨(e.g.own b q).1,nJ (e.g.own b q) λ_ o y=>aM (L.keep b o y) λh e' _=>⟨h,e'⟩⟩,e.g.gens,e.g.os⟩
 refine⟨e.move G go λb hb o p=>?_,T.go go λa' oe' I q p ed ec=>?_,S⟩
 .refine qB (L.keep b o p) λh e' _ _ w=>?_;refine hZ (e.g.dg b (e.own b hb)) λ_ _ o2 D nf=>?_;rw[p]at D;have B:=LC D;clear D;subst B;exact⟨h,e',(w nf).1⟩
 .have B:=ajL q;clear q;subst B;have tr:=L.lP;refine II (id tr) λoe2 vs2 T2 oT ts g1 g2 g3 g4 g5=>?_;refine qB (L.keep a oe' p) λh e' c' N _=>?_;rw[g1]at e';have B:=LC e';clear e';subst B;refine⟨oe2,vs2,g1,c',N.1,g3,?_⟩;rcases jB with rfl|rfl
  .exact .inr (.inl tr)
  .exact .inr (.inr tr)
theorem dZ.ref(T:dZ c fl V h e x):∃a,e = .ref a:=by induction T with|mk a _ _ _ _ _ q=>exact⟨a,q⟩
theorem ads{P:Unit->LG->Prop}{E:LD->LG->Prop}(i:R c f l σ s)(fy:f.fr=f.env::fr')(y:f.env.frame=Y f.env.locals)(T:dZ c f.fl (σ.V f.pv) s.heap e x)(h:∀h',R c f l σ {s with heap:=h'}->dZ c .none (σ.V f.pv) h' e x->aJ f.P f.pv σ s.heap σ h'->P () {s with heap:=h'}):wpAny (LS c.prog c.w) f.A (ao1 f.env e) P E s:=by
 refine LJ T.ref λa b=>?_;subst b;refine nM T.lP λS vs e1 e2 D G j=>?_;have jB:f.fl=rawInt f.env.locals:=by unfold Fc.fl;rw[y]
 refine adt (by rw[i.g.stack,fy]) (fy▸i.g.frames) y e1 i.g.stays G D (by rw[e2,←jB];exact j) λh' L=>?_;rw[e2,←fy]at L;refine fS (H4 i T L (.inl rfl)) λz B C=>?_;refine h h' z (B.go Go.refl λa' m p q I H N=>?_) C;have M:=ajL q;clear q;subst M;exact⟨m,p,I,rfl,rfl,H,.inr (.inl L.lP)⟩
set_option backward.match.sparseCases true in
theorem ML(G:Rg c (n+1) pv fr A σ s){H:List Str}{h:List LD}{xs:List O}(r:bh (σ.V pv) s.heap h xs){body:List ah7}{h1:VG}{t:Nat}(e:Ent s.heap env (H.zip h) h1)
  (S:env.scope.kind = .function) (E:env.frame=Y env.locals) (N:env.globals=ajp) (hb:env.builtins=al2)
  (i:d6 c (sub A env fr n pv) (ajV body env) (H.zip xs) σ (λk l' ain=>match k with | .ret x=>Q x ain | .next=>Q .none ain | .brk=>False) λl' x ain=>X x ain) :
  wpAny (LS c.prog c.w) (A.deeper env) (ajV body env) (λfl s'=>Ax c (n+1) pv fr A σ s Q X (.ok (.ret (match fl with | .ret v=>v|_=>.none))) s')
   (λe s'=>wpAny (LS c.prog c.w) (A.deeper env) (ao1 env e) (λ_ l=>Ax c (n+1) pv fr A σ s Q X (.error e) l) (λe' l=>Ax c (n+1) pv fr A σ s Q X (.error e') l) s')
   {s with heap:=h1,toks:=t}:=by
 have M:=enter (t:=t) G r e S E N hb;refine nG (i _ M) (λfl s' k l' ain j m p q=>?_) λev s' ⟨x,l',ain,T,m,p,q⟩=>?_
 .have D:=Rg.back G e m;have sb:=aJ.back G e p;induction k using vE with
  |next =>
   cases fl with
   |next=>exact⟨.none,ain,.none,D,sb,q⟩
   |_=>exact j.elim
  |brk=>exact q.elim
  |ret x =>
   cases fl with
   |ret v=>exact⟨x,ain,Rel.go (Go.EP λb q=>.inl q) j,D,sb,q⟩
   |_=>exact j.elim
 .refine ads (f:=sub A env fr n pv) m rfl E T λh' I B S2=>?_;exact⟨x,ain,B.go (Go.EP λb q=>.inl q) λa Z vs q C ed ec=>by
   subst q;refine nM B.lP λoe' z e1 _ L _ y=>?_;rw[C]at e1;have zq:=LC e1;clear e1;subst zq;exact⟨Z,z,C,rfl,rfl,L,y⟩,Rg.back G e I,aJ.back G e (p.trans S2),q⟩
end
structure FI where
 params:List Str
 defs:List O
 scope:ajB
 body:List ah7
noncomputable def FI.bind(a:FI)(xs:List O):Option Lc :=if a.params.length<=xs.length+a.defs.length/\xs.length<=a.params.length then Y (a.params.zip (xs++a.defs.drop (xs.length+a.defs.length - a.params.length))) else LA
inductive ja (c:GC):List LD->List O->Prop
 |nil:ja c [] []
 |cons {v vs x xs}:pK c v x->ja c vs xs->ja c (v::vs) (x::xs)
section
variable{c:GC}{n:Nat}{pv:LP->Prop}{fr:List Env}{A:adh}{σ ain:Sg}{s s':LG}{Q:QV}{X:QX}
theorem ja.here(R:ja c vs xs)(G:Rg c n pv fr A σ s):bh (σ.V pv) s.heap vs xs:=by
 induction R with
 |nil=>exact .nil
 |cons a _ i=>exact .cons (a.here G) i
theorem ja.length(R:ja c vs xs):vs.length=xs.length:=by
 induction R with
 |nil=>rfl
 |cons _ _ i=>exact congrArg (· + 1) i
structure JR (c:GC) (a:LP) (fi:FI) (o:Obj) (fd:ajx):Prop where
 at_:c.base.get? a=Y o
 data:o.data = .func fd
 body:fd.body = .stmts fi.body
 scope:fd.scope=fi.scope
 globals:fd.globals=ajp
 builtins:fd.builtins=al2
 closure:fd.closure=[]
 code:codeIn c.K fd.code fd.qualname=W
 co:fd.scope.isCoroutine=LB
 gen:fd.scope.isGenerator=LB
 kind:fd.scope.kind = .function
 Qq:amU c.K (.ref a)=W
 ail:isFn c.K (.ref a)=W
 nodup:fi.params.Nodup
def pI(c:GC)(a:LP)(e:FI):Prop:=∃o fd,JR c a e o fd /\ ((∀x∈fd.scope.names,x.2 ≠ .cell)/\(∀p∈e.params,fd.scope.names.lookup p=Y .local) /\ (∀(s:LG) (b:List LD),c.base.StaysIn s.heap->e.params.length<=b.length+e.defs.length->b.length<=e.params.length -> ∃lY,ja c lY (e.defs.drop (b.length+e.defs.length - e.params.length))/\BindsTo s fd ⟨b,[]⟩ (e.params.zip (b++lY))) ∨ e.defs=[]/\(∀n,((akh n fd.scope.names []).map (·.1)).Nodup)/\(∀p∈e.params,fd.scope.names.lookup p=Y .local∨(fd.scope.names.lookup p=Y .cell/\∀n,((akh n fd.scope.names []).lookup p).isSome=W)) /\ (∀b:List LD,b.length=e.params.length->alc fd ⟨b,[]⟩=pure (e.params.zip b)))
theorem Cy{i:Type}:∀{l:List (Str×i)},(l.map (·.1)).Nodup->∀p∈l,l.lookup p.1=Y p.2:=by
 intro l;induction l with
 |nil =>
  exact@λ_ p m=>by exact fj m
 |cons q r f =>
  exact@λnd p m=>by
   rw[VR,VI]at nd;rcases VM.mp m with e|m'
   .subst e;obtain⟨a,b⟩:=p;rw[VC];simp
   .have h:p.1≠q.1:=λe=>nd.1 (e▸anj m');obtain⟨a,b⟩:=q;rw[VC,VF.mpr h];exact f nd.2 p m'
theorem JI{i:Type}:∀{f:List Str}{vs:List i},f.Nodup->((f.zip vs).map (·.1)).Nodup
 | [],_,_=>.nil
 |_::_,[],_=>.nil
 |n::f,v::vs,nd=>by
  rw[VI]at nd;rw[aki,VR,VI];refine⟨λq=>?_,JI nd.2⟩;refine aM (aak.mp q) λy h e=>?_;have:=(ajE (a:=y.1) (b:=y.2) h).1;rw[show y.1=n from e]at this;exact nd.1 this
theorem Io{a:Type}{l:List a}(h:l.Nodup):l.reverse.Nodup:=by
 unfold am8 at h ⊢;rw[List.pairwise_reverse];exact h.imp λq e=>q e.symm
theorem QN{b:Type}{a:List Str}{vs:List b}(nd:a.Nodup)(p)(m:p∈a.zip vs):(a.zip vs).reverse.lookup p.1=Y p.2:=by
 refine Cy ?_ p (amf.mpr m);rw[List.map_reverse];exact Io (JI nd)
theorem aaY{fd:ajx}{a:LP}{h:List Str}{f:List LD}{h₀:VG}(i:h₀.Ns s.heap.objs.size λx=>(h.zip f).reverse.lookup x)(k:∀b o,s.heap.get? b=Y o->h₀.get? b=Y o)(l:fd.closure=[])(w:∀p∈h,fd.scope.names.lookup p=Y .local)(nd:h.Nodup):Ent s.heap (anG fd s.heap.objs.size a) (h.zip f) h₀:=by
 have jM:(anG fd s.heap.objs.size a).cells=[]:=l;have B:(anG fd s.heap.objs.size a).locals=s.heap.objs.size:=rfl;refine⟨k,⟨_,i⟩,λp j=>?_,λb q=>?_,by rw[jM];simp,by rw[jM];simp⟩
 .have e:(anG fd s.heap.objs.size a).kindOf p.1=Y .local:=w p.1 (ajE j).1;unfold fD;rw[e];exact⟨_,i,QN nd p j⟩
 .rw[jM]at q;rcases q with rfl|q
  .refine ia i λo es z y m _=>?_;exact⟨LL _,o,y,λvs q=>by rw[m]at q;exact lz q⟩
  .exact fj q
theorem Zj{k:Str->Option aaW}:∀{l:List (Str×LD)}{m:Str->Option LD}{x:Str},k x=Y .local ->
  bindL k l m x=(match l.reverse.lookup x with|some v=>Y v|none=>m x):=by
 intro l;induction l with
 |nil=>intro m x _;rfl
 |cons q r f =>
  intro m x a;obtain⟨n,v⟩:=q;unfold bindL;rw[f a,adI,ant];cases r.reverse.lookup x with
  |some w=>rfl
  |none =>
   simp only[ao2,VC,aoK];by_cases e:x=n
   .subst e;simp[a]
   .have:(x == n)=LB:=VF.mpr e;rw[this];by_cases b:k n=Y .local<;>simp[b,e]
theorem Zi{k:Str->Option aaW}:∀{l:List (Str×LD)}{m:Str->Option LD}{x:Str},k x≠Y .local ->
  bindC k l m x=(match l.reverse.lookup x with|some v=>Y v|none=>m x):=by
 intro l;induction l with
 |nil=>intro m x _;rfl
 |cons q r f =>
  intro m x a;obtain⟨n,v⟩:=q;unfold bindC;rw[f a,adI,ant];cases r.reverse.lookup x with
  |some w=>rfl
  |none =>
   simp only[ao2,VC,aoK];by_cases e:x=n
   .subst e;simp[a]
   .have:(x == n)=LB:=VF.mpr e;rw[this];by_cases b:k n=Y .local<;>simp[b,e]
theorem aaX{fd:ajx}{a:LP}{m:List Str}{f:List LD}{j:LG}(x:InCallC s (akD fd s.heap.objs.size a).locals (bindL (akD fd s.heap.objs.size a).kindOf (m.zip f) λ_=>LA) (akD fd s.heap.objs.size a).cells (bindC (akD fd s.heap.objs.size a).kindOf (m.zip f) λ_=>LA) j)(L:∀p∈m,fd.scope.names.lookup p=Y .local∨(fd.scope.names.lookup p=Y .cell/\∀n,((akh n fd.scope.names []).lookup p).isSome=W))(nd:m.Nodup)(D:∀n,((akh n fd.scope.names []).map (·.1)).Nodup):Ent s.heap (akD fd s.heap.objs.size a) (m.zip f) j.heap:=by
 have E:(akD fd s.heap.objs.size a).locals=s.heap.objs.size:=rfl;have kd:∀y,(akD fd s.heap.objs.size a).kindOf y=fd.scope.names.lookup y:=λ_=>rfl;have w:((akD fd s.heap.objs.size a).cells.map (·.2)).Nodup:=by
  have:=x.apart;rw[am8,alZ];exact this
 refine⟨x.toInCall.keep,⟨_,x.toInCall.ns⟩,λp G=>?_,λb q=>?_,λb q=>by
   refine aM (aak.mp q) λy i h=>?_;subst h;exact⟨_,x.cell y.1 y.2 (Cy (D _) y i)⟩,VI.mpr ⟨λq=>?_,w⟩⟩
 .have H:=QN nd p G;unfold fD;rcases L p.1 (ajE G).1 with e|⟨e,I⟩
  .rw[kd,e];exact⟨_,x.toInCall.ns,by rw[Zj (by rw[kd];exact e),H]⟩
  .rw[kd,e];refine LJ (amg.mp (I (s.heap.objs.size+1))) λC l=>?_;refine⟨C,l,?_⟩;have:=x.cell p.1 C l
   rwa [Zi (by rw[kd,e];decide),H]at this
 .rcases q with rfl|q
  .refine ia x.toInCall.ns λo es M B z _=>?_;exact⟨by rw[E];exact LL _,o,B,λvs q=>by rw[z]at q;exact lz q⟩
  .refine aM (aak.mp q) λy i h=>?_;subst h;refine⟨amh (by have:=x.above y.1 y.2 i;rw[E]at this;exact this),?_⟩;refine aM (x.cell y.1 y.2 (Cy (D _) y i)) λo B z=>?_;exact⟨o,B,λvs q=>by rw[z]at q;cases q⟩
 .refine aM (aak.mp q) λy i e=>?_;have:=x.above y.1 y.2 i;rw[e]at this;exact alR _ this
theorem Ic{a:Type}{k:a}:∀{l:List (Str×a)},l.lookup x=Y k->(x,k)∈l:=by
 intro l;induction l with
 |nil =>
  exact@λh=>by exact bR h
 |cons f r b =>
  obtain⟨y,v⟩:=f;exact@λh=>by
   rw[VC]at h;cases e:x == y with
   |true=>rw[e]at h;rw[eq_of_beq e,show v=k from LC h];exact .head _
   |false=>rw[e]at h;exact .tail _ (b h)
theorem MR:∀{b:List (Str×aaW)}(n:Nat) {acc:List (Str×LP)},(b.lookup x=Y .cell∨∃a,acc.lookup x=Y a)->∃a,(akh n b acc).lookup x=Y a:=by
 intro b;induction b with
 |nil =>
  exact@λn acc h=>h.elim (λh=>by exact bR h) id
 |cons i r f =>
  obtain⟨y,k⟩:=i;exact@λn acc h=>by
   show ∃a,(if (k == .cell)=W then akh (n+1) r ((y,n)::acc) else akh n r acc).lookup x=Y a;by_cases q:(k == akd)=W
   .rw[VD q];refine f _ ?_;by_cases e:x=y
    .exact .inr ⟨n,by rw[VC,ajR.mpr e]⟩
    .rcases h with h|⟨a,h⟩
     .left;rw[VC,VF.mpr e]at h;exact h
     .exact .inr ⟨a,by rw[VC,VF.mpr e];exact h⟩
   .rw[QE q];refine f _ ?_;by_cases e:x=y
    .rcases h with h|h
     .rw[VC,ajR.mpr e]at h;have j:=LC h;clear h;subst j;exact absurd rfl q
     .exact .inr h
    .rcases h with h|h
     .left;rw[VC,VF.mpr e]at h;exact h
     .exact .inr h
theorem ZI{a:LP}{p:FI}{xs:List O}{l:Lc}(F:pI c a p)(hb:p.bind xs=Y l)
  (h:∀f:Fc,f.n=n->f.env.scope=p.scope->(∀x,p.scope.names.lookup x=Y .cell->∃a,f.env.cells.lookup x=Y a)->d6 c f (ajV p.body f.env) l σ (λk l' ain=>match k with | .ret x=>Q x ain | .next=>Q .none ain | .brk=>False) λl' x ain=>X x ain) :
  j0 c (n+1) (.ref a) xs σ Q X:=by
 intro pv fr A s j G r;refine pg F λo fd D F=>?_;unfold FI.bind at hb;by_cases b:p.params.length<=xs.length+p.defs.length/\xs.length<=p.params.length
 .rw[VD b]at hb;have zq:=LC hb;clear hb;subst zq;have H:=r.length;have nl:=c.top.nolimit.keeps G.stays;have y:A.depth < recursionLimit:=by have:=G.depth;show A.depth < 1000;lia
  have I:=codeRec_of (ik G) D.code;rcases F with ⟨w,i,m⟩|⟨B,T,i,m⟩
  .refine aM (m s j G.stays (by rw[H];exact b.1) (by rw[H];exact b.2)) λlY M Z=>?_;rw[H]at M;refine codeAny_call_def (fd:=fd) (body:=p.body) (binds:=p.params.zip (j++lY)) y (G.stays _ _ D.at_) D.data nl I D.body Z w (λx C=>i _ (ajE C).1) (λL hn k=>?_) D.co D.gen D.kind;exact ML (env:=anG fd s.heap.objs.size a) G (r.append (M.here G)) (aaY hn k D.closure i D.nodup) D.kind rfl D.globals D.builtins (h _ rfl D.scope λx C=>absurd rfl (w _ (Ic (by rw[D.scope];exact C))))
  .rw[B]at b;have e:j.length=p.params.length:=H.trans (akM b.2 b.1);refine codeAny_call_cells (fd:=fd) (body:=p.body) (binds:=p.params.zip j) y (G.stays _ _ D.at_) D.data nl I D.body (m j e) D.closure (λx C=>(i _ (ajE C).1).imp_right λz=>⟨z.1,z.2 _⟩) (λN x=>?_) D.co D.gen D.kind;refine ve x.toInCall.same λS tk E=>?_;subst E;have z:=ML (t:=tk) (env:=akD fd s.heap.objs.size a) G r (aaX x i D.nodup T) D.kind rfl D.globals D.builtins (by have:=h (sub A (akD fd s.heap.objs.size a) fr n pv) rfl D.scope λx C=>MR _ (.inl (by rw[D.scope];exact C));rw[B,alP,VJ]at this;exact this);exact z
 .rw[QE b]at hb;exact bR hb
end
theorem mA(x:Str)(v:O)(y:Str)(l:List (Str×O)):(cy x v l).lookup y=if y=x then Y v else l.lookup y:=by
 have a:∀(n:Str) (w:O) (r:List (Str×O)),apz y ((n,w)::r)=if y=n then Y w else r.lookup y:=λn w r=>by
  rw[VC];by_cases h:y=n
  .rw[VD h,h,abk]
  .rw[QE h,VF.mpr h]
 induction l with
 |nil=>unfold cy;exact a x v []
 |cons p r e =>
  obtain⟨n,z⟩:=p;unfold cy;by_cases b:n=x
  .rw[VD (ajR.mpr b),a,a,b];by_cases h:y=x
   .rw[VD h,VD h]
   .rw[QE h,QE h,QE h]
  .rw[QE λq=>b (ajR.mp q),a,a,e];by_cases h:y=n
   .rw[VD h,VD h,QE λq=>b (h.symm.trans q)]
   .rw[QE h,QE h]
section
variable{c:GC}{f:Fc}{l:Lc}{σ ain:Sg}{s s':LG}{Q Q':QV}{X X':QX}
theorem aJ.qC{P pv:LP->Prop}(j:abi a h h')(i:P a):aJ P pv σ h σ h' :=⟨LL _,λ_ _=>rfl,λb o e p q=>⟨q,.same ((j.2 b λz=>p (z▸i)).trans e)⟩⟩
theorem Rg.qC{pv:LP->Prop}(G:Rg c n pv fr A σ s)(h:abi a s.heap h')(j:pv a)(p:h'.get? a=Y o)(B:gY o):Rg c n pv fr A σ {s with heap:=h'} where
 stays:=λb o e=>(h.2 b λz=>by have:=(G.dg a j).2.1;rw[z,this]at e;exact bR e).trans (G.stays b o e)
 frames:=frames_at (λenv he L D i e w=>by
  by_cases q:L=a
  .subst q;exact⟨o,p,B⟩
  .exact⟨i,(h.2 L q).trans e,w⟩) G.frames
 stack:=G.stack
 hand:=G.hand
 depth:=G.depth
 units:=G.units
 fJ:=G.fJ
 dg:=λb q=>by
  refine hZ (G.dg b q) λx y i e f=>?_;by_cases z:b=a
  .subst z;exact⟨x,y,o,p,B⟩
  .exact⟨x,y,i,(h.2 b z).trans e,f⟩
 objs:=λk m e=>(G.objs k m e).go (Go.sameBut (V:=σ.V pv) h (Or.inr j)) λb q C i e' _=>(h.2 b λz=>by have:=(G.dg a j).1;rw[←z,C]at this;exact fZ this).trans e'
 own:=λb e=>⟨(G.own b e).1,by
  refine nJ (G.own b e) λ_ i y=>?_;by_cases q:b=a
  .subst q;exact⟨o,p⟩
  .exact⟨i,(h.2 b q).trans y⟩⟩
 gens:=G.gens
 os:=G.os
def pR(f:Fc)(x:Str):Prop:=f.env.kindOf x=Y .local∨(f.env.kindOf x=Y .cell/\∃a,f.env.cells.lookup x=Y a)
theorem R.qC(e:R c f l σ s)(i:f.P a)(p:abi a s.heap h')(j:h'.get? a=Y o)(z:gY o)(A:∃m,h'.Ns f.env.locals m)(w:∀b∈f.env.cells.map (·.2),∃v,h'.IsCell b v)(h:∀x y,l'.lookup x=Y y->∃v,fD f.env h' x v/\Rel (σ.V f.pv) h' v y):R c f l' σ {s with heap:=h'}:=⟨e.g.qC p (e.own a i) j z,A,h,w,e.own,e.nd,e.kind,e.glob,e.lW,e.top⟩
theorem Ad{Pq:Unit->LG->Prop}{E:LD->LG->Prop}(i:R c f l σ s)(r:Rel (σ.V f.pv) s.heap v y)(hx:pR f x)(h:∀s',R c f (cy x y l) σ s'->aJ f.P f.pv σ s.heap σ s'.heap->Pq () s'):wpAny (LS c.prog c.w) f.A (storeName f.env x v) Pq E s:=by
 rcases hx with L|⟨L,a,I⟩
 .refine LJ i.ns λm hm=>?_;refine wpAny_storeName_local L hm (λh' p j=>?_) (by rw[i.kind];rfl);refine ia (id p) λo es ep Z T _=>?_;have go:Go (σ.V f.pv) s.heap (σ.V f.pv) h':=Go.sameBut j (.inr (i.own _ (.inl rfl)));refine h _ ((i.qC (l':=cy x y l) (.inl rfl) j Z (λvs q=>by rw[T]at q;exact lz q) ⟨_,p⟩ (λb q=>LJ (i.iS b q) λv x=>⟨v,x.sameBut j λz=>(VI.mp i.nd).1 (z▸q)⟩) λz u e=>?_).tok _) (aJ.qC j (.inl rfl));rw[mA]at e;by_cases G:z=x
  .subst G;rw[VD rfl]at e;have M:=LC e;clear e;subst M;refine⟨v,?_,r.go go⟩;unfold fD;rw[L];exact⟨_,p,by simp⟩
  .rw[QE G]at e;refine aM (i.vars z u e) λw k H=>?_;refine⟨w,?_,H.go go⟩;refine k.to (λm' D e'=>⟨_,p,?_⟩) λa' C e'=>e'.sameBut j λz=>(VI.mp i.nd).1 (aak.mpr ⟨_,mem_of_lookup C,z⟩);simp only[G,if_false];refine ph hm λo1 es1 ep1 h1 d1 _ f1=>?_;refine ph D λo2 es2 ep2 S d2 _ f2=>?_;rw[h1]at S;have M:=LC S;clear S;subst M;rw[d1]at d2;cases d2;rw[←f1,f2];exact e'
 .have pa:f.P a:=.inr (aak.mpr ⟨_,mem_of_lookup I,rfl⟩);have ne:f.env.locals≠a:=λz=>(VI.mp i.nd).1 (aak.mpr ⟨_,mem_of_lookup I,z.symm⟩);refine LJ (i.iS a (aak.mpr ⟨_,mem_of_lookup I,rfl⟩)) λv₀ N=>?_;refine wpAny_storeName_cell i.kind L I N λh' p j=>?_;refine aM (id p) λo Z T=>?_;have go:Go (σ.V f.pv) s.heap (σ.V f.pv) h':=Go.sameBut j (.inr (i.own _ pa));refine h _ (i.qC (l':=cy x y l) pa j Z (λvs q=>by rw[T]at q;cases q) (LJ i.ns λm hm=>⟨m,hm.sameBut j ne⟩) (λb q=>?_) λz u e=>?_) (aJ.qC j pa)
  .by_cases z:b=a
   .subst z;exact⟨_,p⟩
   .refine LJ (i.iS b q) λv x=>?_;exact⟨v,x.sameBut j z⟩
  .have B:f.env.cells.Pairwise λx y=>x.2≠y.2:=by
    have:=(VI.mp i.nd).2;rw[am8,alZ]at this;exact this
   rw[mA]at e;by_cases G:z=x
   .subst G;rw[VD rfl]at e;have M:=LC e;clear e;subst M;refine⟨v,?_,r.go go⟩;unfold fD;rw[L];exact⟨a,I,p⟩
   .rw[QE G]at e;refine aM (i.vars z u e) λw k H=>?_;refine⟨w,?_,H.go go⟩;have ca:∀a',f.env.cells.lookup z=Y a'->a'≠a:=λa' h1 q=>G (anu B (mem_of_lookup h1) (q▸mem_of_lookup I));exact k.to (λm' D e'=>⟨m',D.sameBut j ne,e'⟩) λa' C e'=>e'.sameBut j (ca a' C)
end
theorem ae0{y:Str×O}:∀{r:List (Str×O)},y∈cy x v r->y.1=x∨y.1∈r.map (·.1):=by
 intro r;induction r with
 |nil=>exactλm=>.inl (congrArg (·.1) (aeq.mp m))
 |cons p r a =>
  exactλm=>Qf (P:=λl=>y∈l) m (λ_ m=>(VM.mp m).elim (λz=>.inr (by rw[z];exact .head _)) λm=>.inr (.tail _ (anj m)))
   λ_ m=>(VM.mp m).elim (λe=>.inr (by rw[e];exact .head _)) λm=>(a m).imp_right (.tail _)
theorem aeZ(x:Str)(v:O):∀{l:List (Str×O)},(l.map (·.1)).Nodup->((cy x v l).map (·.1)).Nodup:=by
 intro l;induction l with
 |nil=>exactλ_=>VI.mpr ⟨λh=>(by exact fj h),.nil⟩
 |cons p r i =>
  exactλh=>ac5 (b:=p.1 == x) (x:=(p.1,v)::r) (y:=(p.1,p.2)::cy x v r) (P:=λl:List (Str×O)=>(l.map (·.1)).Nodup) (λ_=>h) λa=>VI.mpr ⟨λq=>aM (aak.mp q) λy f e=>(ae0 f).elim
   (λz=>by rw[show p.1=x from e.symm.trans z,abk]at a;exact qK a) λz=>(VI.mp h).1 (by show p.1∈_;rw[←show y.1=p.1 from e];exact z),i (VI.mp h).2⟩
inductive i9 (V:Vw) (h:VG):List (Str×LD)->List (Str×O)->Prop
 |nil:i9 V h [] []
 |cons {n v x kvs fs}:Rel V h v x->i9 V h kvs fs->i9 V h ((n,v)::kvs) ((n,x)::fs)
theorem Qt(R:cD V h es fs):∃b,Pairs (strKind P w) es b/\i9 V h b fs/\b.map (·.1)=fs.map (·.1) :=
 R.ind (P:=λes fs=>∃b,Pairs (strKind P w) es b/\i9 V h b fs/\b.map (·.1)=fs.map (·.1)) ⟨[],.nil,.nil,rfl⟩ λ{_ n t v _ _ _} a _ i=>by
  refine jU i λb p k e=>?_;exact⟨(n,v)::b,.cons (akg P w n t) rfl p,.cons a k,congrArg (n :: ·) e⟩
theorem RA{f:List (Str×LD)}(p:Pairs (strKind P w) es f):i9 V h f fs->(∀e∈es,∃k,(strKind P w).is k e.key=W/\e.hash=(strKind P w).hash k)->cD V h es fs/\KeysLit w.params es:=by
 induction p generalizing fs with
 |nil=>intro k _;cases k;exact⟨.nil,trivial⟩
 | @cons e _ _ _ a b p i =>
  intro k l;cases k with
  |cons r k =>
  refine bg (i k λx m=>l x (.tail _ m)) λr1 D=>?_;obtain⟨E,z,v⟩:=e;refine LJ (alB a) λt j=>?_;subst j;cases b;refine aM (l _ (.head _)) λy A B=>?_;refine LJ (alB (show ajo y (.str _ t)=W from A)) λG C=>?_;cases C;exact⟨.cons r r1,⟨_,t,rfl,B⟩,D⟩
theorem i9.go(g:Go V h V' h'){b:List (Str×LD)}(R:i9 V h b fs):i9 V' h' b fs:=by
 induction R with
 |nil=>exact .nil
 |cons a _ i=>exact .cons (a.go g) i
theorem adN:∀{kvs:List (Str×LD)},k∉kvs.map (·.1)->kvs.map (λa=>if a.1=k then(a.1,v) else a)=kvs:=by
 intro kvs;induction kvs with
 |nil =>
  exact@λ_=>rfl
 |cons p r b =>
  exact@λh=>by
   rw[VR,VM,not_or]at h;rw[VR,QE (aaU h.1),b h.2]
theorem i9.stored(r:Rel V h v x){f:List (Str×LD)}(j:i9 V h f fs):(f.map (·.1)).Nodup->i9 V h (stored f k v) (cy k x fs):=by
 induction j with
 |nil=>intro _;exact i9.cons r .nil
 | @cons n w y f fs a b i =>
  intro nd;rw[VR,VI]at nd;have i:=i nd.2;unfold PySem.stored at i ⊢;unfold cy;by_cases e:n=k
  .subst e;rw[VD (show(n == n)=W by simp),VD (by simp),VR,VD rfl,adN nd.1];exact i9.cons r b
  .rw[QE (show ¬(n == k)=W by simpa using e)];by_cases q:f.any (λl=>decide (l.1=k))=W
   .rw[VD q]at i;rw[VD (by rw[ajX,q,akx]),VR,QE e];exact i9.cons a i
   .rw[QE q]at i;rw[QE (by rw[ajX,aer e,ape];exact q),List.cons_append];exact i9.cons a i
section
variable{c:GC}{f:Fc}{l:Lc}{σ ain:Sg}{s s':LG}{Q Q':QV}{X X':QX}
def n0(c:GC)(f:Fc)(t:LD->Sem Unit)(x:O)(l:Lc)(σ:Sg)(Q:Lc->Sg->Prop)(X:Lc->QX):Prop :=∀v s,R c f l σ s->Rel (σ.V f.pv) s.heap v x->wpAny (LS c.prog c.w) f.A (t v) (λ_ s'=>J9 c f σ s Q s') (dH c f σ s X) s
def xN(c:GC)(f:Fc)(t:LD->LD->LD->Sem Unit)(x y z:O)(l:Lc)(σ:Sg)(Q:Sg->Prop)(X:QX):Prop :=∀v w u s,R c f l σ s->Rel (σ.V f.pv) s.heap v x->Rel (σ.V f.pv) s.heap w y->Rel (σ.V f.pv) s.heap u z->wpAny (LS c.prog c.w) f.A (t v w u) (λ_ s'=>J7 c f l σ s Q s') (dH c f σ s λl' x ain=>l'=l/\X x ain) s
theorem gJ.loc{X:Lc->QX}(h:dH c f σ s (λl' x ain=>l'=l/\X l x ain) e s'):dH c f σ s X e s' :=let ⟨x,l',ain,a,b,d,e,g⟩:=h;⟨x,l',ain,a,b,d,e▸g⟩
theorem Dp{Q:Lc->Sg->Prop}{X:Lc->QX}(i:pR f x)(h:Q (cy x y l) σ):n0 c f (akj (.Name x pos) f.env) y l σ Q X:=λv s e r => assign_Name (Ad e r i λs' a b=>⟨_,σ,a,b,h⟩)
theorem UO{Q:Lc->Sg->Prop}{X:Lc->QX}(h:bF c f o l σ (λa i=>Av c f (λv w=>anF v attr w) a y l i (λb=>Q l b) (X l)) (X l)):n0 c f (akj (.Attribute o attr pos) f.env) y l σ Q X:=λv s B r=>by
 rw[arm_assign_Attribute];refine wpAny_bind (aas (dc (h s B) (λD j a i E m e x=>wpAny_bind (ajr (wpAny_bind (aas (H7 (x D v j m E (r.step e B.own)) (λ_ C b A z q=>?_) λ_ _ p=>?_))))) λ_ _ p=>p.loc))
 .exact wpAny_release ⟨l,b,A,e.trans z,q⟩
 .exact(gJ.after e p).loc
theorem UQ{Q:Lc->Sg->Prop}{X:Lc->QX}(h:bF c f o l σ (λa x=>bF c f i l x (λb z=>xN c f alF a b y l z (λm=>Q l m) (X l)) (X l)) (X l)):n0 c f (akj (.Subscript o i pos) f.env) y l σ Q X:=λv s I r=>by
 rw[arm_assign_Subscript];refine wpAny_bind (aas (dc (h s I) (λN C a x S w e D=>wpAny_bind (aas (dc (D C w) (λM E b z T G j H=>wpAny_bind (ajr (wpAny_bind (aas
  (H7 (H N M v E G (S.step j w.own) T ((r.step e I.own).step j w.own)) (λ_ L m B A q=>?_) λ_ _ p=>?_))))) λ_ _ p=>?_))) λ_ _ p=>p.loc))
 .exact wpAny_release ⟨l,m,B,(e.trans j).trans A,q⟩
 .exact(gJ.after (e.trans j) p).loc
 .exact(gJ.after e p).loc
def tO(c:GC)(f:Fc)(ts:List (LD->Sem Unit))(xs:List O)(l:Lc)(σ:Sg)(Q:Lc->Sg->Prop)(X:Lc->QX):Prop :=∀vs s,R c f l σ s->bh (σ.V f.pv) s.heap vs xs->wpAny (LS c.prog c.w) f.A (assignInOrder ts vs) (λ_ s'=>J9 c f σ s Q s') (dH c f σ s X) s
theorem J2{Q:Lc->Sg->Prop}{X:Lc->QX}(h:Q l σ):tO c f [] [] l σ Q X:=λvs s a r=>by
 refine r.Q8 ?_;exact wpAny_assignInOrder_none ⟨l,σ,a,.refl,h⟩
theorem J1{t:LD->Sem Unit}{ts:List (LD->Sem Unit)}{Q:Lc->Sg->Prop}{X:Lc->QX}(h:n0 c f t x l σ (λe i=>tO c f ts xs e i Q X) X):tO c f (t::ts) (x::xs) l σ Q X:=λvs s C r=>by
 refine r.A5 λ_ _ a r=>?_;exact wpAny_assignInOrder_more (wB (h _ s C a) (λ_ m e i w b y=>wB (y _ m w (r.step b C.own)) (λ_ D B j A z q=>⟨B,j,A,b.trans z,q⟩) λ_ _ p=>p.after b) λ_ _ p=>p)
theorem Tv(k:amJ h.objs.size h h'):h.StaysIn h':=λb o e=>k b o (WA (VQ e)) e
theorem JJ{Q:Lc->Sg->Prop}{X:Lc->QX}(hq:c.quiet=W)(z:(ajF elts f.env).length=xs.length)(A:(ajF elts f.env).findIdx? (·.1)=LA)(h:tO c f ((ajF elts f.env).map (·.2)) xs l σ Q X):n0 c f (akj (.Tuple elts k pos) f.env) (.tup xs) l σ Q X:=λv s x r=>by
 refine r.tupK λ_ _ _ B g r=>?_;refine wpAny_assign_Tuple (x.g.hand hq) ⟨_,g,rfl,_,rfl⟩ (by rw[z,QD,r.length]) A λh' e=>?_;have st:=Tv e;have i:=x.grow st;have a:aJ f.P f.pv σ s.heap σ h':=aJ.grow st;exact wB (h _ _ i (r.go (Go.stays st))) (λ_ y w b m j q=>⟨w,b,m,a.trans j,q⟩) λ_ _ p=>gJ.after a p
theorem agn{e:ajI}{w:ac9}{A:adh}{E:LD->LG->Prop}{s:LG}{a:LP}{vs:List LD}{n:Nat}{i:Int}{t:Tok}{v:LD}{P:Unit->LG->Prop}(b:IsL s.heap a vs.toArray n)(p:0<=i)(x:i < 2 ^ 63)(hi:i < vs.length)(h:P () {s with heap:=s.heap.update a (al4 (·.setIfInBounds i.toNat v))}):wpAny (LS e w) A (alF (.ref a) (.int i t) v) P E s:=by
 unfold alF
 try with_reducible refine aas ?_
 first|refine wpAny_bind (wpAny_pure ?_)|skip
 refine wpAny_bind (anY b.isList.typeIs (by decide) ?_);refine wpAny_bind (amw (name:=ami "__setitem__") b.isList.typeIs amx
  (aor amx b.isList.typeIs PySem.entry_list_setitem ?_ (PySem.args_list_setitem _ _ _)))
 show wpAny _ _ (ao7 (.int i t) >>= _) _ _ s;refine wpAny_bind (wpAny_listSubscript_int (fitsIndex_of p x) ?_);clear x;refine LJ (amy p) λj m=>?_;subst m;have y:j < vs.toArray.size:=by rw[QD];omega
 show wpAny _ _ ((seqItemAt a j >>= λr=>pure (r.map (j,·))) >>= _) _ _ s;refine wpAny_bind (wpAny_bind (wpAny_seqItemAt b rfl (wpAny_pure ?_)));rw[al5 y];show wpAny _ _ (setSeqItemAt a j v >>= _) _ _ s;refine wpAny_bind (wpAny_setSeqItemAt b rfl ?_)
 first
  |exact wpAny_bind (wpAny_pure (wpAny_pure ⟨.none,rfl,wpAny_pure h⟩))
  |exact wpAny_pure ⟨.none,rfl,wpAny_pure h⟩
theorem CZ{s:LG}{a:LP}{vs:List LD}{n k:Nat}{m₀:MO}{g:Array LD->Array LD}{ws:List LD}{ys:List O}(j:R c f l σ s)(p:σ.H[k]?=Y m₀)(e:σ.σ a=Y (k,LB))(h:σ.μ k=a)(w:IsL s.heap a vs.toArray n)(m:g vs.toArray=ws.toArray)(r:bh (σ.V f.pv) s.heap ws ys):R c f l (σ.put k (.lst ys)) {s with heap:=s.heap.update a (al4 g)}/\aJ f.P f.pv σ s.heap (σ.put k (.lst ys)) (s.heap.update a (al4 g)):=by
 have b:=w.update g;rw[m]at b;have sb:=alA s.heap a (al4 g);have i:σ.σ a≠LA:=by rw[e];simp
 have go:Go (σ.V f.pv) s.heap (σ.V f.pv) (s.heap.update a (al4 g)):=Go.sameBut sb (.inl i);exact⟨j.put p sb e ⟨by rw[h];exact e,ws,_,by rw[h];exact b,r.go go⟩ ⟨_,b⟩,aJ.put sb i⟩
theorem bh.set(a:Rel V h v x)(k:Nat)(R:bh V h vs xs):bh V h (vs.set k v) (xs.set k x) :=R.ind (P:=λvs xs=>∀k,bh V h (vs.set k v) (xs.set k x)) (λ_=>.nil) (λb r i k=>alK k (.cons a r) λk=>.cons b (i k)) k
theorem WW{k:Nat}{xs:List O}{i:Int}{y:O}{Q:Sg->Prop}(m:σ.H[k]?=Y (.lst xs))(x:0<=i)(hi:i < xs.length)(z:i < 2 ^ 63)(h:∀p:Sg,p.H=σ.H.set k (.lst (xs.set i.toNat y))->Q p):xN c f alF (.ref k) (.int i) y l σ Q X:=λv w u s j r A B=>by
 refine A.fz λt=>r.jo λ_=>?_;refine dD (j.g.objs k _ m) λe vs n g r=>?_;refine agn (a:=σ.μ k) (vs:=vs) g x z (by rw[r.length];exact hi) ?_;refine bg (CZ (ys:=xs.set i.toNat y) (g:=(·.setIfInBounds i.toNat u)) j m e rfl g (show vs.toArray.setIfInBounds i.toNat u=(vs.set i.toNat u).toArray by simp) (bh.set B i.toNat r)) λa b=>?_;exact⟨_,a,b,h _ rfl⟩
theorem WV{Q:Sg->Prop}(j:σ.H[k]?=Y (.bD fs))(M:fs.length<=WE)(h:∀G:Sg,G.H=σ.H.set k (.bD (cy x y fs))->Q G):xN c f alF (.ref k) (.str x) y l σ Q X:=λv w u s i r r' ry=>by
 refine r'.jG λt=>r.jo λ_=>?_;refine zO (i.g.objs k _ j) λe es n g r N nd=>?_;refine jU (Qt (P:=c.prog) (w:=c.w) r) λkvs p S z=>?_;have A:(kvs.map (·.1)).Nodup:=by rw[z];exact nd
 have D:s.heap.DictOf (ang c.prog c.w) (σ.μ k) kvs:=⟨_,es.toArray,n,g,⟨rfl,rfl,rfl⟩,rfl,λe he=>by
  refine pg (N.all e (by simpa using he)) λx t e1 e2=>?_;exact⟨x,by rw[e1];exact akg _ _ x t,e2⟩,by simpa using p,A⟩
 refine wpAny_setItem_pairs (akg _ _ x t) D (λh' I sb=>?_) (by rw[show kvs.length=fs.length by rw[←QC (f:=(·.1)),z,QC]];exact M);obtain⟨o,a,n',L,⟨B,C,E⟩,od,ok,op,on⟩:=I;have go:Go (σ.V f.pv) s.heap (σ.V f.pv) h':=Go.sameBut sb (.inl (by show σ.σ (σ.μ k)≠LA;rw[e];simp));refine bg (RA op (i9.stored (ry.go go) (S.go go) A) λq hq=>ok q (by simpa using hq)) λr1 r2=>?_;have b:h'.get? (σ.μ k)=Y (aaR a.toList n'):=by
  obtain⟨oc,odi,Z,osl⟩:=o;dsimp only at B C E od;subst B C E od;exact L
 have T:σ.σ (σ.μ k)≠LA:=by rw[e];simp
 exact⟨σ.put k (.bD (cy x y fs)),(i.put (m:=.bD (cy x y fs)) j sb e ⟨e,a.toList,n',b,r1,r2,aeZ _ _ nd⟩ ⟨_,b⟩).tok _,aJ.put sb T,h _ rfl⟩
end
noncomputable def jK(sc:ajB):Env:=⟨sc,0,0,[],Str.empty,LA,.none,LA,0⟩
theorem TA(ts:List LF)(v:LF)(env:Env):ajs ts v env=ajs ts v (jK env.scope):=rfl
theorem TB(ts:List LF)(v:LF)(n:Nat)(env:Env):ak9 ts v n env=ak9 ts v n (jK env.scope):=by
 cases ts with
 |nil=>rfl
 |cons t r=>cases r<;>rfl
theorem ag4(v:LF)(t:Option LF)(n:Nat)(env:Env):alM v t n env=alM v t n (jK env.scope):=rfl
abbrev QF:=Fl->Lc->Sg->Prop
section
variable{c:GC}{f:Fc}{l:Lc}{σ ain:Sg}{s s':LG}{Q:QF}{X:Lc->QX}
theorem gJ.up{X:Lc->QX}(h:dH c f σ s (λl' x ain=>l'=l/\X l x ain) e s'):dH c f σ s X e s':=h.loc
theorem Kc(h:Q .next l σ):d6 c f (ajV [] f.env) l σ Q X:=λs a=>wpAny_execs_nil ⟨.next,l,σ,trivial,a,.refl,h⟩
theorem Kb{st:ah7}{rest:List ah7}(h:d6 c f (ak4 st f.env) l σ (λk a b=>match k with | .next=>d6 c f (ajV rest f.env) a b Q X|k=>Q k a b) X):d6 c f (ajV (st::rest) f.env) l σ Q X:=λs C =>
 wpAny_execs_cons (nG (h s C) (λfl w k a b r j i q=>by
  induction k using vE with
  |next=>rw[r.nx];exact nG (q w j) (λfl B k A m r z y q=>⟨k,A,m,r,z,i.trans y,q⟩) λ_ _ p=>p.after i
  |brk=>rw[r.bk];exact⟨.brk,a,b,trivial,j,i,q⟩
  |ret x=>refine aM r.rt λv e r=>?_;rw[e];exact⟨.ret x,a,b,r,j,i,q⟩) λ_ _ p=>p)
theorem Xr(h:iR c f test l σ (λb e=>if b then d6 c f (ajV body f.env) l e Q X else d6 c f (ajV orelse f.env) l e Q X) (X l)):d6 c f (ak4 (.If test body orelse pos) f.env) l σ Q X:=λs A =>
 wpAny_If (j8 (h s A) (λb x e y a q=>by
  induction b using cB with
  |true=>exact nG (q x y) (λfl z k w i r m j q=>⟨k,w,i,r,m,a.trans j,q⟩) λ_ _ p=>p.after a
  |false=>exact nG (q x y) (λfl z k w i r m j q=>⟨k,w,i,r,m,a.trans j,q⟩) λ_ _ p=>p.after a) λ_ _ p=>p.up)
theorem Xv(h:bF c f e l σ (λx a=>Q (.ret x) l a) (X l)):d6 c f (ak4 (.Return (Y e) pos) f.env) l σ Q X:=λs m => wpAny_Return_some (dc (h s m) (λv j x a r i b q=>⟨.ret x,l,a,r,i,b,q⟩) λ_ _ p=>p.up)
theorem Xw(h:Q (.ret .none) l σ):d6 c f (ak4 (.Return LA pos) f.env) l σ Q X:=λs a=>wpAny_Return_none ⟨.ret .none,l,σ,.none,a,.refl,h⟩
theorem Xs(h:Q .next l σ):d6 c f (ak4 (.Pass pos) f.env) l σ Q X:=λs a=>wpAny_Pass ⟨.next,l,σ,trivial,a,.refl,h⟩
theorem Xo(h:Q .brk l σ):d6 c f (ak4 (.Break pos) f.env) l σ Q X:=λs a=>wpAny_Break ⟨.brk,l,σ,trivial,a,.refl,h⟩
theorem Xq(w:alM e LA pos.line (jK f.env.scope)=pure LB)(h:bF c f e l σ (λx a=>Q .next l a) (X l)):d6 c f (ak4 (.Expr e pos) f.env) l σ Q X:=λs j =>
 wpAny_Expr_any (dc (h s j) (λv m x a r i b q=>⟨.next,l,a,trivial,i,b,q⟩) λ_ _ p=>p.up) (by unfold interactive;rw[j.kind];rfl) w
theorem AB(B:ak9 [t] value pos.line (jK f.env.scope)=pure LB)(hw:ajs [t] value (jK f.env.scope)=pure LA)(he:(ajF [t] f.env).map (·.2)=[akj t f.env])(h:bF c f value l σ (λx e=>n0 c f (akj t f.env) x l e (λb a=>Q .next b a) X) (X l)):d6 c f (ak4 (.Assign [t] value pos) f.env) l σ Q X:=λs A =>
 wpAny_Assign_stores (dc (h s A) (λv j x e r m i q=>by
  rw[he];exact wB (q v j m r) (λ_ z b a y w q=>⟨.next,b,a,trivial,y,i.trans w,q⟩) λ_ _ p=>p.after i) λ_ _ p=>p.up)
  (by rw[TB];exact B) (by rw[TA];exact hw)
theorem bh.reverse(R:bh V h vs xs):bh V h vs.reverse xs.reverse :=R.ind (P:=λvs xs=>bh V h vs.reverse xs.reverse) .nil λa _ i=>by rw[adI,adI];exact i.append (.cons a .nil)
theorem V6{Q:Lc->Sg->Prop}{a:List Str}:∀{xs:List O}{l:Lc},a.length=xs.length->(∀n∈a,pR f n)->Q ((a.zip xs).foldl (λl p=>cy p.1 p.2 l) l) σ->tO c f (a.map λn=>bindName f.env n) xs l σ Q X:=by
 induction a with
 |nil =>
  intro xs l e _ h;induction xs using cL with
  |nil=>exact J2 h
  |cons _ _=>exact absurd e (ajv _).symm
 |cons n a y =>
  intro xs l e b h;induction xs using cL with
  |nil=>exact absurd e (ajv _)
  |cons x xs=>exact J1 λv s w r=>wpAny_bindName (Ad w r (b n (.head _)) λs' i j =>
    ⟨cy n x l,σ,i,j,y (akQ e) (λm hm=>b m (.tail _ hm)) h⟩)
theorem Xx(hq:c.quiet=W)(M:ak9 [t] value pos.line (jK f.env.scope)=pure LB)(hw:ajs [t] value (jK f.env.scope)=pure (Y w))(L:∀n∈w,pR f n)(h:bF c f value l σ (λx b=>∃xs,x = .tup xs/\xs.length=w.length/\Q .next ((w.reverse.zip xs.reverse).foldl (λl p=>cy p.1 p.2 l) l) b) (X l)):d6 c f (ak4 (.Assign [t] value pos) f.env) l σ Q X:=λs I=>by
 rw[arm_exec_Assign];refine wpAny_bind (ajr ?_);rw[TB,M];refine wpAny_bind (wpAny_pure ?_);rw[QE (by decide)];refine wpAny_bind (dc (h s I) (λv C x b r j i S=>jU S λxs H el q=>?_) λ_ _ p=>p.up);rw[TA,hw];refine wpAny_bind (wpAny_pure ?_);subst H;refine r.tupK λa vs n T g r=>?_
 .unfold assignStores;refine wpAny_bind (al6 ?_);have N:w.length=vs.toArray.size:=by rw[QD,r.length,el]
  rw[N];refine wpAny_bind (aoL (j.g.hand hq) ⟨_,g,rfl,_,rfl⟩ λh' e=>?_);have st:=Tv e;have D:=j.grow st;have m:aJ f.P f.pv b C.heap b h':=aJ.grow st;refine wpAny_bind (wB (V6 (X:=X) (Q:=λl' ain=>Q .next l' ain) (by rw[abj,abj,el]) (λn E=>L n (amf.mp E)) q vs.toArray.toList.reverse _ D (by simpa using (r.go (Go.stays st)).reverse)) (λ_ G B y A z q=>?_) λ_ _ p=>gJ.after (i.trans m) p);exact wpAny_pure ⟨.next,B,y,trivial,A,(i.trans m).trans z,q⟩
theorem Xn(ha:∀H E e,augStore i H E e=(do holding [e,H,E] (alF H E e);release [e,H,E] [];pure .next))
  (h:bF c f o l σ (λa S=>bF c f i l S (λb T=>bY c f amb a b l T (λG L=>bF c f value l L (λy N=>bY c f (inplaceOp op) G y l N (λe I=>xN c f alF a b e l I (λB=>Q .next l B) (X l)) (X l)) (X l)) (X l)) (X l)) (X l)) :
  d6 c f (ak4 (.AugAssign (.Subscript o i tpos) op value pos) f.env) l σ Q X:=λs hR =>
 wpAny_AugAssign_SubscriptAny (dc (h s hR) (λH aiq a S ra C w ait=>dc (ait aiq C) (λE aiv b T rb D j aiy =>
  dc (aiy H E aiv D (ra.step j C.own) rb) (λG aiF c' L rc M x aiS=>dc (aiS aiF M) (λv aiU y N ry aiL A aiT =>
   dc (aiT G v aiU aiL (rc.step A M.own) ry) (λe Z z I rz ai8 ai9 aja=>by
    have m:=(x.trans A).trans ai9;exact H7 (aja H E e Z ai8 ((ra.step j C.own).step m D.own) (rb.step m D.own) rz) (λ_ s₆ B ajb ajc q=>⟨.next,l,B,trivial,ajb,((w.trans j).trans m).trans ajc,q⟩) λ_ _ p=>(gJ.after ((w.trans j).trans m) p).up)
    λ_ _ p=>(gJ.after (((w.trans j).trans x).trans A) p).up) λ_ _ p=>(gJ.after ((w.trans j).trans x) p).up) λ_ _ p=>(gJ.after (w.trans j) p).up) λ_ _ p=>(gJ.after w p).up) λ_ _ p=>p.up) ha
end
theorem aei(e:LD)(h:env.frame=env'.frame):alL e env=alL e env':=by
 unfold alL PySem.frameOf;rw[h]
section
variable{c:GC}{f:Fc}{l:Lc}{σ ain:Sg}{s s':LG}{Q:QF}{X:Lc->QX}{tg:LF}
theorem Ir{P:Unit->LG->Prop}{E:LD->LG->Prop}(b:R c f l σ s)(T:dZ c f.fl (σ.V f.pv) s.heap e x)(h:∀h' a,e = .ref a->R c f l σ {s with heap:=h'}->dZ c f.fl (σ.V f.pv) h' e x->fV c.base a (.ref x.C) f.fl h'->aJ f.P f.pv σ s.heap σ h'->P () {s with heap:=h'}):wpAny (LS c.prog c.w) f.A (alL e f.env) P E s:=by
 refine LJ T.ref λa i=>?_;subst i;refine ia b.top λG M L fy p y=>?_;refine nM T.lP λN vs e1 e2 H I m=>?_;have jB:f.fl=rawInt L:=by unfold Fc.fl;rw[y]
 rw[aei (env':=G) _ (y.trans p.symm)];refine Rr (by rw[b.g.stack,fy]) (fy▸b.g.frames) p e1 b.g.stays I H (by rw[e2,←jB];exact m) λh' j=>?_;rw[e2,←fy,←jB]at j;refine fS (H4 b T j (.inr rfl)) λz B D=>?_;exact h h' a rfl z B j.lP D
theorem BM{P:Unit->LG->Prop}{E:LD->LG->Prop}(b:R c f l σ s)(T:dZ c f.fl (σ.V f.pv) s.heap (.ref a) x)(z:fV c.base a (.ref x.C) fl s.heap)(fy:fr=LA∨fr=f.env.frame)(h:∀h',R c f l σ {s with heap:=h'}->dZ c f.fl (σ.V f.pv) h' (.ref a) x->fV c.base a (.ref x.C) (fr.elim .none λf=>rawInt f) h'->aJ f.P f.pv σ s.heap σ h'->P () {s with heap:=h'}):wpAny (LS c.prog c.w) f.A (ao6 (.ref a) fr) P E s:=by
 refine Td (l:=f.fr) b.g.frames b.g.stays z λh' e=>?_;refine ia b.top λB y L _ D i=>?_;obtain⟨j,m,p⟩:=H4 b T e (by
  rcases fy with rfl|rfl
  .exact .inl rfl
  .right;rw[i];unfold Fc.fl;rw[i];rfl)
 exact h h' j m e.lP p
theorem CJ(P:dH c f σ s X e s'):ao3 (LS c.prog c.w) f.A f.env (λe s'=>cameBackBy (LS c.prog c.w) f.A f.env (λe s'=>dH c f σ s X e s') e s') e s':=by
 obtain⟨x,l',ain,T,h,m,q⟩:=P;refine Ir h T λh' a B i p b S1=>?_;subst B;refine II (id b) λM vs y L ts C G D E H=>?_;unfold cameBackBy;refine wpAny_bind (ajD C D E ?_);rw[QE (show ¬((aaS y == akC)=W) from by simp)];refine BM (s:={ s' with heap:=h'}) i p b (.inr rfl) λI j z _ S2=>?_;exact⟨x,l',ain,z,j,(m.trans S1).trans S2,q⟩
def Wh(c:GC)(f:Fc)(a:LF)(body:List ah7)(Q:QF)(X:Lc->QX):Nat->Lc->Sg->Prop
 |0,_,_=>False
 |n+1,l,σ=>iR c f a l σ (λb i=>if b then d6 c f (ajV body f.env) l i (λk h e=>match k with
   | .next=>Wh c f a body Q X n h e
   | .brk=>Q .next h e
   | .ret x=>Q (.ret x) h e) X else Q .next l i) (X l)
theorem Xz(n:Nat)(h:Wh c f test body Q X n l σ):d6 c f (ak4 (.While test body [] pos) f.env) l σ Q X:=λs L=>by
 refine wpAny_While (codeAny_whileLoop (λm a=>∃l' ain,R c f l' ain a/\aJ f.P f.pv σ s.heap ain a.heap/\Wh c f test body Q X m l' ain) (λm a z=>?_) n ⟨l,σ,L,.refl,h⟩);refine vf z λl' ain H C w=>?_;induction m using cN with
 |zero=>exact w.elim
 |succ m =>
  refine j8 (w a H) (λb G E B A q=>?_) λ_ _ p=>CJ (gJ.after C p.up);induction b using cB with
  |true =>
   refine nG (q G B) (λfl I k y i r j D q=>?_) λ_ _ p=>CJ (gJ.after (C.trans A) p);have S:=(C.trans A).trans D;induction k using vE with
   |next=>rw[r.nx];exact⟨m,ajj m,y,i,j,S,q⟩
   |brk=>rw[r.bk];exact⟨.next,y,i,trivial,j,S,q⟩
   |ret x=>refine aM r.rt λv e r=>?_;rw[e];exact⟨.ret x,y,i,r,j,S,q⟩
  |false=>exact wpAny_execs_nil ⟨.next,l',E,trivial,B,C.trans A,q⟩
structure nX (c:GC) (f:Fc) (tg:LF) (it:LP) (fp:List LP) (St:Nat->Sg->VG->Prop) (give:Nat->bj) (stop:Nat->List MO->Prop):Prop where
 there:∀{i σ h},St i σ h->∀b∈fp,σ.σ b=LA/\c.base.get? b=LA/\∃o,h.get? b=Y o/\iO o
 keep:∀{i l σ s ain h'},R c f l σ s->St i σ s.heap->aJ f.P f.pv σ s.heap ain h'->c.base.StaysIn h'->St i ain h'
 item:∀{i l σ s x} {P:Option LD->LG->Prop}{E:LD->LG->Prop},R c f l σ s->St i σ s.heap->give i x σ.H ->
  (∀v h' t,(∀(P2:Unit->LG->Prop) (E2:LD->LG->Prop),
    (∀h'',(∀b o,b∉fp->s.heap.get? b=Y o->h''.get? b=Y o)->St (i+1) σ h''->Rel (σ.V f.pv) h'' v x->P2 () {s with heap:=h'',toks:=t}) ->
    wpAny (LS c.prog c.w) f.A (akN tg (.ref it) v) P2 E2 {s with heap:=h',toks:=t})->P (Y v) {s with heap:=h',toks:=t}) ->
  wpAny (LS c.prog c.w) f.A (aoM (.ref it)) P E s
 fin:∀{i l σ s} {P:Option LD->LG->Prop}{E:LD->LG->Prop},R c f l σ s->St i σ s.heap->stop i σ.H->(∀h' t,(∀b o,b∉fp->s.heap.get? b=Y o->h'.get? b=Y o)->P LA {s with heap:=h',toks:=t})->wpAny (LS c.prog c.w) f.A (aoM (.ref it)) P E s
theorem iO.Ip(i:iO o):¬Rv o:=by
 refine vd i λa T e _=>?_;refine LJ a λvs d=>?_
 rintro (f|⟨C,q⟩)
 .exact f vs d
 .rw[e]at q;cases q
theorem Go.fp{V:Vw}{h h':VG}{fp:List LP}(a:∀b∈fp,∃o,h.get? b=Y o/\iO o)(k:∀b o,b∉fp->h.get? b=Y o->h'.get? b=Y o):Go V h V h' :=
 ⟨LL _,λ_ _=>rfl,λ_ _ _ t=>t,λb o e _ r=>⟨o,k b o (λq=>by
  refine aM (a b q) λm e' i=>?_;rw[e]at e';have j:=LC e';clear e';subst j;exact i.Ip r) e,.rfl⟩⟩
theorem R.fp{h':VG}{fp:List LP}{t:Nat}(a:R c f l σ s)(j:∀b∈fp,σ.σ b=LA/\c.base.get? b=LA/\∃o,s.heap.get? b=Y o/\iO o)(k:∀b o,b∉fp->s.heap.get? b=Y o->h'.get? b=Y o):R c f l σ {s with heap:=h',toks:=t}:=by
 have h:∀b o,s.heap.get? b=Y o->Rv o->h'.get? b=Y o:=λb o e r=>k b o (λq=>by
  refine hZ (j b q) λ_ _ B e' i=>?_;rw[e]at e';have p:=LC e';clear e';subst p;exact i.Ip r) e
 have go:Go (σ.V f.pv) s.heap (σ.V f.pv) h':=⟨LL _,λ_ _=>rfl,λ_ _ _ t=>t,λb o e _ r=>⟨o,h b o e r,.rfl⟩⟩;refine(a.move (s':={s with heap:=h'}) ⟨λb o e=>k b o (λq=>by rw[(j b q).2.1]at e;exact bR e) (a.g.stays b o e),a.g.frames.of_keeps λb o e n=>⟨o,h b o e (.inl n),rfl⟩,a.g.stack,a.g.hand,a.g.depth,a.g.units,a.g.fJ,λb q=>?_,λi m e=>?_,λb q=>?_,a.g.gens,a.g.os⟩ go λb q o e=>?_).tok t
 .refine hZ (a.g.dg b q) λx y o e w=>?_;exact⟨x,y,o,h b o e (.inl w),w⟩
 .exact(a.g.objs i m e).go go λb q _ o A n=>h b o A n
 .refine nJ (a.g.own b q) λx o e=>?_;exact⟨x,o,k b o (λz=>q (j b z).1) e⟩
 .refine hZ (a.g.dg b (a.own b q)) λ_ _ C e2 n=>?_;rw[e]at e2;have p:=LC e2;clear e2;subst p;exact⟨o,h b o e (.inl n),rfl⟩
def lp(P:LP->Prop)(σ:Sg)(h:VG)(b:LP):Prop:=∀o,h.get? b=Y o->¬P b->σ.σ b=LA->False
theorem aJ.fp{P pv:LP->Prop}{h h1 h':VG}{fp:List LP}(S:aJ P pv σ h ain h1)(fr:∀b∈fp,lp P σ h b)(k:∀b o,b∉fp->h1.get? b=Y o->h'.get? b=Y o):aJ P pv σ h ain h' :=
 ⟨S.n,S.mu,λb o e p q=>by
  have j:b∉fp:=λz=>fr b z o e p q;refine wZ (S.keep b o e p q) λa r i m x=>?_;exact⟨a,λz=>aM (r z) λy e2 w=>⟨y,k b y j e2,w⟩,λz=>k b o j (i z),m,k b m j x⟩⟩
inductive Vo (c:GC) (f:Fc) (tg:LF) (l:Lc) (σ:Sg) (s:LG) (QI:(Nat->bj)->(Nat->List MO->Prop)->Sg->Prop) (itv:LD) (aiv:LG):Prop
 |mk (it:LP) (fp:List LP) (St:Nat->Sg->VG->Prop) (give:Nat->bj) (stop:Nat->List MO->Prop) (ain:Sg) (ei:itv = .ref it) (ais:R c f l ain aiv) (air:aJ f.P f.pv σ s.heap ain aiv.heap)
  (D:nX c f tg it fp St give stop) (fr:∀b∈fp,lp f.P σ s.heap b) (st:St 0 ain aiv.heap) (q:QI give stop ain)
def AH(c:GC)(f:Fc)(tg:LF)(e:LF)(l:Lc)(σ:Sg)(b:(Nat->bj)->(Nat->List MO->Prop)->Sg->Prop)(X:QX):Prop :=∀s,R c f l σ s->wpAny (LS c.prog c.w) f.A (eval e f.env) (λv a=>wpAny (LS c.prog c.w) f.A (amV v) (Vo c f tg l σ s b) (dH c f σ s λl' x ain=>l'=l/\X x ain) a) (dH c f σ s λl' x ain=>l'=l/\X x ain) s
def Fo(c:GC)(f:Fc)(a:LF)(body:List ah7)(Q:QF)(X:Lc->QX)(b:Nat->bj)(e:Nat->List MO->Prop):Nat->Nat->Lc->Sg->Prop
 |0,_,_,_=>False
 |n+1,i,l,σ=>(∃x,b i x σ.H/\n0 c f (akj a f.env) x l σ (λm p=>d6 c f (ajV body f.env) m p (λk j h=>match k with
   | .next=>Fo c f a body Q X b e n (i+1) j h
   | .brk=>Q .next j h
   | .ret x=>Q (.ret x) j h) X) X)∨(e i σ.H/\Q .next l σ)
inductive Vk (c:GC) (f:Fc) (target:LF) (body:List ah7) (Q:QF) (X:Lc->QX) (give:Nat->bj) (stop:Nat->List MO->Prop) (St:Nat->Sg->VG->Prop) (σ:Sg) (s:LG) (m:Nat) (aiq:LG):Prop
 |mk (i:Nat) (l':Lc) (ain:Sg) (R':R c f l' ain aiq) (S':aJ f.P f.pv σ s.heap ain aiq.heap) (st:St i ain aiq.heap) (w:Fo c f target body Q X give stop m i l' ain)
theorem DA{a j:LF}{body:List ah7}{pos:Pos}(hs:∀x,aeL j f.env x=pure x)(h:AH c f a j l σ (λb y I=>∃n,Fo c f a body Q X b y n 0 l I) (X l)): d6 c f (ak4 (.For a j body [] pos) f.env) l σ Q X:=λs hR=>by
 refine wpAny_For (VL (h s hR) (λv M ait=>VL ait (λitv aiv z=>?_) λ_ _ p=>p.up) λ_ _ p=>p.up) hs;induction z with
 |mk it fp St b y I ei ais air D fr st q =>
 refine LJ q λn w=>?_;subst ei;refine codeAny_forLoop_any (Vk c f a body Q X b y St σ s) (λm M z=>?_) n ⟨0,l,I,ais,air,st,w⟩;induction z with
 |mk i l' ain N S' B T =>
 induction m using cN with
 |zero=>exact T.elim
 |succ m =>
  rcases T with ⟨x,gx,T⟩|⟨sp,q⟩
  .refine D.item N B gx λv h' t go=>go _ _ λh'' k st2 rv=>?_;have ft:=D.there B;have R2:R c f l' ain {M with heap:=h'',toks:=t}:=N.fp ft k;have S2:aJ f.P f.pv σ s.heap ain h'':=S'.fp fr k;refine wB (T v _ R2 rv) (λ_ Z aiR aiA E C ajd=>?_) λ_ _ p=>CJ (gJ.after S2 p);have st3:=D.keep R2 st2 C E.g.stays;refine nG (ajd Z E) (λfl aiU k H G r A L q=>?_) λ_ _ p=>CJ (gJ.after (S2.trans C) p);have S:=(S2.trans C).trans L;induction k using vE with
   |next=>rw[r.nx];exact⟨m,ajj m,i+1,H,G,A,S,D.keep E st3 L A.g.stays,q⟩
   |brk=>rw[r.bk];exact⟨.next,H,G,trivial,A,S,q⟩
   |ret x=>refine aM r.rt λv e r=>?_;rw[e];exact⟨.ret x,H,G,r,A,S,q⟩
  .refine D.fin N B sp λh' t k=>wpAny_execs_nil ⟨.next,l',ain,trivial,N.fp (D.there B) k,S'.fp fr k,q⟩
theorem lp.of{P pv:LP->Prop}(S:aJ P pv σ h ain h1)(e:h1.get? b=LA):lp P σ h b:=λo a p q=>by
 refine wZ (S.keep b o a p q) λ_ _ _ i e'=>?_;rw[e]at e';exact bR e'
def Dx(St:(LP->Prop)->Nat->Sg->VG->Prop):Prop :=∀{pv a:LP->Prop}{i:Nat}{σ ain:Sg}{h h':VG},St pv i σ h->Go (σ.V pv) h (ain.V a) h'->(∀b o,h.get? b=Y o->iO o->σ.σ b=LA->ain.σ b=LA/\h'.get? b=Y o)->St a i ain h'
def Ke(c:GC)(it:LP)(St:(LP->Prop)->Nat->Sg->VG->Prop):Prop:=∀{f':Fc}{l:Lc}{i:Nat}{σ:Sg}{s:LG}{P:LD->LG->Prop}{E:LD->LG->Prop},R c f' l σ s->St f'.pv i σ s.heap->P (.ref it) s->wpAny (LS c.prog c.w) f'.A (amV (.ref it)) P E s
def tJ(c:GC)(f:Fc)(tg:LF)(x:O)(σ:Sg)(a:Nat->bj)(e:Nat->List MO->Prop):Prop :=∀{l v s} {P:LD->LG->Prop}{E:LD->LG->Prop},R c f l σ s->Rel (σ.V f.pv) s.heap v x->(∀it fp St h' t,(∀f',nX c f' tg it fp (St f'.pv) a e)->Dx St->Ke c it St->(∀b∈fp,s.heap.get? b=LA)->s.heap.StaysIn h'->St f.pv 0 σ h'->P (.ref it) {s with heap:=h',toks:=t})->wpAny (LS c.prog c.w) f.A (amV v) P E s
theorem Vr{e:LF}{y:(Nat->bj)->(Nat->List MO->Prop)->Sg->Prop}{X:QX}(h:bF c f e l σ (λx j=>∃a i,tJ c f tg x j a i/\y a i j) X):AH c f tg e l σ y X:=λs B => dc (h s B) (λv A x j r w m E=>pg E λa i ok q=>ok w r λit fp St h' t D _ _ fr st C => ⟨it,fp,St f.pv,a,i,j,rfl,(w.grow st).tok t,m.trans (aJ.grow st),D f,λb z=>lp.of m (fr b z),C,q⟩) λ_ _ p=>p
noncomputable def IP(T:String):Bool:=!["enumerate","zip","dict_itemiterator","dict_reverseitemiterator","odict_iterator","itertools.zip_longest","itertools.pairwise"].contains T
set_option backward.match.sparseCases true in
noncomputable def adF(it a:LP):Sem Unit:=do
 let o ←load it
 match o.cls,o.data with
 | .type n,.fields vs =>
  if ["enumerate", "zip", "dict_itemiterator", "dict_reverseitemiterator", "odict_iterator", "itertools.zip_longest", "itertools.pairwise"].contains n&&vs[0]? == Y (rawInt a) then
   rule "for.unpacks-the-owned-tuple"
   updateField it 0 .none
 |_,_=>pure ()
theorem adG(b:LF)(it:LP)(v:LD):akN b (.ref it) v=pure ()∨∃a,akN b (.ref it) v=adF it a:=by
 cases b<;>first|exact .inl rfl|(cases v<;>first|exact .inl rfl|exact .inr ⟨_,rfl⟩)
theorem Ot{P:Unit->LG->Prop}{E:LD->LG->Prop}(e:s.heap.get? it=Y o)(j:o.cls = .type T)(m:o.data = .fields vs)(i:IP T=W)(h:P () s): wpAny (LS c.prog c.w) f.A (akN b (.ref it) v) P E s:=by
 rcases adG b it v with q|⟨a,q⟩
 .rw[q];exact wpAny_pure h
 .rw[q];refine wpAny_bind (wpAny_load e ?_);rw[j,m];dsimp only;have:(["enumerate", "zip", "dict_itemiterator", "dict_reverseitemiterator", "odict_iterator", "itertools.zip_longest", "itertools.pairwise"].contains T)=LB:=by
   unfold IP at i;simpa using i
  rw[this,Bool.false_and,QE (by decide)];exact wpAny_pure h
theorem Cn{i:Nat}{it:LP}{o:Obj}{l:Lc}{σ ain:Sg}{s:LG}{h':VG}(h:R c f l σ s)(e:s.heap.get? it=Y o)(j:iO o)(un:σ.σ it=LA)(S:aJ f.P f.pv σ s.heap ain h'):ain.σ it=LA/\h'.get? it=Y o:=by
 have m:¬f.P it:=λq=>by
  refine hZ (h.g.dg it (h.own it q)) λ_ _ w e2 n=>?_;rw[e]at e2;have p:=LC e2;clear e2;subst p;refine bg j λb _=>?_;refine LJ b λvs d=>?_;exact n vs d
 refine i4 (S.keep it o e m un) λa _ i _=>?_;exact⟨a,i j⟩
theorem agl(b:R c f l σ s)(e:s.heap.get? a=Y o)(n:gY o)(t:¬(σ.V f.pv).T a)(S:aJ f.P f.pv σ s.heap ain h'):¬(ain.V f.pv).T a/\h'.get? a=Y o :=(S.go b.own).same t e n
def ju(c:GC)(it:LP)(T:String)(D:Array LD)(σ:Sg)(h:VG):Prop:=σ.σ it=LA/\c.base.get? it=LA/\∃o,h.get? it=Y o/\o.cls = .type T/\o.data = .fields D
theorem ju.my(j:T ≠ "traceback")(x:ju c it T D σ h):∀b∈[it],σ.σ b=LA/\c.base.get? b=LA/\∃o,h.get? b=Y o/\iO o:=λb q=>by
 rw[aeq.mp q];refine k7 x λa b o e d1 i=>?_;exact⟨a,b,o,e,⟨_,i⟩,T,d1,j⟩
theorem ju.keep{it:LP}{T:String}{D:Array LD}{l:Lc}{σ ain:Sg}{s:LG}{h':VG}(m:T ≠ "traceback")(j:R c f l σ s)(x:ju c it T D σ s.heap)(S:aJ f.P f.pv σ s.heap ain h'):ju c it T D ain h':=by
 refine k7 x λa b o e d1 h=>?_;refine bg (Cn (i:=0) j e ⟨⟨_,h⟩,T,d1,m⟩ a S) λx y=>?_;exact⟨x,b,o,y,d1,h⟩
theorem NP(k:amJ it h h'):∀b o,b∉[it]->h.get? b=Y o->h'.get? b=Y o:=λb o n e=>k b o (λq=>n (by rw[q];exact .head _)) e
theorem Dd(k:abi it h h'):∀b o,b∉[it]->h.get? b=Y o->h'.get? b=Y o:=λb o n e=>(k.2 b λq=>n (by rw[q];exact .head _)).trans e
theorem A8{it:LP}{T:String}{D:Nat->Array LD}{Src:Sg->VG->Prop}{a:Nat->bj}{stop:Nat->List MO->Prop}(B:T ≠ "traceback")(pl:IP T=W)(y:∀{l σ s ain h'},R c f l σ s->Src σ s.heap->aJ f.P f.pv σ s.heap ain h'->c.base.StaysIn h'->Src ain h')(p:∀{σ h h'},Src σ h->(∃o,h.get? it=Y o/\iO o)->(∀b o,b∉[it]->h.get? b=Y o->h'.get? b=Y o)->Src σ h')(G:∀{i l σ s x} {P:Option LD->LG->Prop}{E:LD->LG->Prop},R c f l σ s->ju c it T (D i) σ s.heap->Src σ s.heap->a i x σ.H -> (∀v h' t,(∃o,h'.get? it=Y o/\o.cls = .type T/\o.data = .fields (D (i+1)))->abi it s.heap h'->Rel (σ.V f.pv) s.heap v x->P (Y v) {s with heap:=h',toks:=t})->wpAny (LS c.prog c.w) f.A (aoM (.ref it)) P E s)(z:∀{i l σ s} {P:Option LD->LG->Prop}{E:LD->LG->Prop},R c f l σ s->ju c it T (D i) σ s.heap->Src σ s.heap->stop i σ.H->(∀h' t,amJ it s.heap h'->P LA {s with heap:=h',toks:=t})->wpAny (LS c.prog c.w) f.A (aoM (.ref it)) P E s): nX c f tg it [it] (λi σ h=>ju c it T (D i) σ h/\Src σ h) a stop:=by
 refine⟨λst=>st.1.my B,λj I S b=>bg I λst m=>⟨st.keep B j S,y j m S b⟩,λ{i l σ s x P E} j ⟨st,m⟩ Z k=>G j st m Z λv h' t I sb rv=>jU I λo e d1 L=>?_,λ{i l σ s P E} j ⟨st,m⟩ sp k=>z j st m sp λh' t N=>k h' t (NP N)⟩;have M:=st.my B;have C:∀b∈[it],∃o,s.heap.get? b=Y o/\iO o:=λb q=>(M b q).2.2;refine k v h' t λP2 E2 hh=>Ot (s:={s with heap:=h',toks:=t}) e d1 L pl (hh h' (Dd sb) ⟨⟨st.1,st.2.1,o,e,d1,L⟩,p m (M it (.head _)).2.2 (Dd sb)⟩ (rv.go (Go.fp C (Dd sb))))
def jb(pv:LP->Prop)(a:LP)(o:Obj)(vs:List LD)(xs:List O)(σ:Sg)(h:VG):Prop:=gY o/\¬(σ.V pv).T a/\h.get? a=Y o/\bh (σ.V pv) h vs xs
theorem jb.keep(b:R c f l σ s)(x:jb f.pv a o vs xs σ s.heap)(S:aJ f.P f.pv σ s.heap ain h'):jb f.pv a o vs xs ain h' :=bg (agl b x.2.2.1 x.1 x.2.1 S) λh e=>⟨x.1,h,e,x.2.2.2.step S b.own⟩
theorem jb.fp{a:LP}{o:Obj}{vs:List LD}{xs:List O}{σ:Sg}{h h':VG}{fp:List LP}{pv:LP->Prop}(x:jb pv a o vs xs σ h)(e:∀b∈fp,∃o,h.get? b=Y o/\iO o)(k:∀b o,b∉fp->h.get? b=Y o->h'.get? b=Y o):jb pv a o vs xs σ h':=by
 refine i4 x λn t g r=>?_;refine⟨n,t,k a o (λq=>?_) g,r.go (Go.fp e k)⟩;refine aM (e a q) λm e' i=>?_;rw[e']at g;have j:=LC g;clear g;subst j;exact i.Ip (.inl n)
theorem jb.Q0{pv b:LP->Prop}(x:jb pv a o vs xs σ h)(g:Go (σ.V pv) h (ain.V b) h'):jb b a o vs xs ain h' :=i4 x λn t e r=>bg (g.same t e n) λi e'=>⟨n,i,e',r.go g⟩
theorem CE{D:Nat->Array LD}{Src:(LP->Prop)->Sg->VG->Prop}(p:T ≠ "traceback")(sm:∀{pv j σ ain h h'},Src pv σ h->Go (σ.V pv) h (ain.V j) h'->Src j ain h'): Dx λpv i σ h=>ju c it T (D i) σ h/\Src pv σ h:=λ{pv j i σ ain h h'} ⟨⟨a,b,o,e,d1,m⟩,w⟩ g k =>
 let ⟨x,y⟩:=k it o e ⟨⟨_,m⟩,T,d1,p⟩ a;⟨⟨x,b,o,y,d1,m⟩,sm w g⟩
theorem PU{it:LP}{h:VG}(a:∃o,h.get? it=Y o/\iO o):∀b∈[it],∃o,h.get? b=Y o/\iO o:=λb q=>by rw[aeq.mp q];exact a
theorem Cq(a:R c f l σ s):ju c s.heap.objs.size T D σ (s.heap.push { cls:=.type T,data:=.fields D}) :=⟨a.g.sX (LL _),a.g.mS (LL _),_,VU _ rfl,rfl,rfl⟩
theorem vY{h:VG}:∀b∈[h.objs.size],h.get? b=LA:=λb q=>by rw[aeq.mp q];exact BP (LL _)
theorem JY{xs:List O}(hq:c.quiet=W):tJ c f tg (.tup xs) σ (λi x _=>xs[i]?=Y x) (λi _=>xs[i]?=LA):=λ{l v s P E} m r h=>by
 refine r.tupK λa vs n C g r=>?_;refine wpAny_pyIter_tuple (items:=vs.toArray) ⟨_,g,rfl,_,rfl⟩ ?_;refine h _ _ (λpv i σ h=>ju c _ "tuple_iterator" #[.ref a,.int i 0] σ h/\jb pv a { cls:=.type "tuple",data:=.seq vs.toArray n} vs xs σ h) _ s.toks (λf'=>A8 (f:=f') (T:="tuple_iterator") (D:=λi=>#[.ref a,.int i 0]) (Src:=jb f'.pv a { cls:=.type "tuple",data:=.seq vs.toArray n} vs xs) (by decide) (by decide) (λm x S _=>x.keep m S) (λx B k=>x.fp (PU B) k) ?_ ?_) (CE (T:="tuple_iterator") (D:=λi=>#[.ref a,.int i 0]) (Src:=λpv=>jb pv a { cls:=.type "tuple",data:=.seq vs.toArray n} vs xs) (by decide) λx g=>jb.Q0 x g) (λ_ st h=>wpAny_pyIter_tupleiter st.1.2.2 h) vY (gH _ _)
  ⟨Cq m,sW rfl,C,gH _ _ _ _ g,r.go (Go.stays (gH _ _))⟩
 .intro i l σ s x P E m b j z k;refine k7 b λ_ _ o e d1 p=>?_;refine i4 j λ_ t g r=>?_;refine aM (r.get z) λv A rv=>?_;exact wpAny_pyNext_tuple_item (i:=i) ⟨o,e,d1,p⟩ ⟨_,g,rfl,_,rfl⟩ (by simpa using A) λh' hit sb=>k v h' s.toks hit sb rv
 .intro i l σ s P E m b j w k;refine k7 b λ_ _ o e d1 p=>?_;refine i4 j λ_ t g r=>?_;refine wpAny_pyNext_tuple_end (i:=i) (m.g.hand hq) ⟨o,e,d1,p⟩ ⟨_,g,rfl,_,rfl⟩ (by
   rw[VS]at w;simp;rw[r.length];exact w) λh' y=>k h' s.toks y
theorem JW{xs:List O}(hq:c.quiet=W):tJ c f tg (.lst xs) σ (λi x _=>xs[i]?=Y x) (λi _=>xs[i]?=LA):=λ{l v s P E} m r h=>by
 refine r.lstK λa vs n C g r=>?_;refine anZ (items:=vs.toArray) ⟨_,g,rfl,_,rfl⟩ ?_;refine h _ _ (λpv i σ h=>ju c _ "list_iterator" #[.ref a,.int i 0] σ h/\jb pv a { cls:=.type "list",data:=.seq vs.toArray n} vs xs σ h) _ s.toks (λf'=>A8 (f:=f') (T:="list_iterator") (D:=λi=>#[.ref a,.int i 0]) (Src:=jb f'.pv a { cls:=.type "list",data:=.seq vs.toArray n} vs xs) (by decide) (by decide) (λm x S _=>x.keep m S) (λx B k=>x.fp (PU B) k) ?_ ?_) (CE (T:="list_iterator") (D:=λi=>#[.ref a,.int i 0]) (Src:=λpv=>jb pv a { cls:=.type "list",data:=.seq vs.toArray n} vs xs) (by decide) λx g=>jb.Q0 x g) (λ_ st h=>amW st.1.2.2 h) vY (gH _ _)
  ⟨Cq m,sW rfl,C,gH _ _ _ _ g,r.go (Go.stays (gH _ _))⟩
 .intro i l σ s x P E m b j z k;refine k7 b λ_ _ o e d1 p=>?_;refine i4 j λ_ t g r=>?_;refine aM (r.get z) λv A rv=>?_;exact amK (i:=i) ⟨o,e,d1,p⟩ ⟨_,g,rfl,_,rfl⟩ (by simpa using A) λh' hit sb=>k v h' s.toks hit sb rv
 .intro i l σ s P E m b j w k;refine k7 b λ_ _ o e d1 p=>?_;refine i4 j λ_ t g r=>?_;refine amX (i:=i) (m.g.hand hq) ⟨o,e,d1,p⟩ ⟨_,g,rfl,_,rfl⟩ (by
   rw[VS]at w;simp;rw[r.length];exact w) λh' y=>k h' s.toks y
theorem JX{k:Nat}{xs:List O}(hq:c.quiet=W)(j:σ.H[k]?=Y (.lst xs)):tJ c f tg (.ref k) σ (λi x H=>∃xs,H[k]?=Y (.lst xs)/\xs[i]?=Y x) (λi H=>∃xs,H[k]?=Y (.lst xs)/\xs[i]?=LA):=λ{l v s P E} b r h=>by
 have lt:k < σ.H.length:=by
  rcases anp k σ.H.length with z|z
  .exact z
  .rw[VO z]at j;exact bR j
 refine r.jo λ_=>?_;refine dD (b.g.objs k _ j) λ_ vs n g r=>?_;generalize ha:σ.μ k=a at g;show wpAny _ _ (amV (.ref (σ.μ k))) _ _ _;rw[ha];refine anZ (items:=vs.toArray) ⟨_,g,rfl,_,rfl⟩ ?_;refine h _ _ (λ_ i σ h=>ju c _ "list_iterator" #[.ref a,.int i 0] σ h/\k < σ.H.length/\σ.μ k=a) _ s.toks (λf'=>A8 (f:=f') (T:="list_iterator") (D:=λi=>#[.ref a,.int i 0]) (Src:=λain _=>k < ain.H.length/\ain.μ k=a) (by decide) (by decide) (λb x S _=>⟨LR x.1 S.n,(S.mu k x.1).trans x.2⟩) (λx _ _=>x) ?_ ?_) (CE (D:=λi=>#[.ref a,.int i 0]) (Src:=λ_ σ _=>k < σ.H.length/\σ.μ k=a) (by decide) λx g=>⟨LR x.1 g.n,(g.mu k x.1).trans x.2⟩) (λ_ st h=>amW st.1.2.2 h) vY (gH _ _)
  ⟨Cq b,lt,ha⟩
 .intro i l σ s x P E b m p w A;refine k7 m λ_ _ o e d1 y=>?_;refine bg p λ_ B=>?_;refine aM w λxs j I=>?_;refine dD (b.g.objs k _ j) λ_ vs n g r=>?_;rw[B]at g;refine aM (r.get I) λv L rv=>?_;exact amK (i:=i) (items:=vs.toArray) ⟨o,e,d1,y⟩ ⟨_,g,rfl,_,rfl⟩ (by simpa using L) λh' hit sb=>A v h' s.toks hit sb rv
 .intro i l σ s P E b m p w A;refine k7 m λ_ _ o e d1 y=>?_;refine bg p λ_ B=>?_;refine aM w λxs j C=>?_;refine dD (b.g.objs k _ j) λ_ vs n g r=>?_;rw[B]at g;refine amX (i:=i) (items:=vs.toArray) (b.g.hand hq) ⟨o,e,d1,y⟩ ⟨_,g,rfl,_,rfl⟩ (by
   rw[VS]at C;simp;rw[r.length];exact C) λh' G=>A h' s.toks G
inductive gX (c:GC) (a:LP):List (AK×O)->Prop
 |ints {is:List Int}{vs:List LD}{xs:List O}{ep:Nat}:c.base.DictAt (aof c.prog c.w) a (is.zip vs) ep->ja c vs xs->is.length=vs.length->(a == agK)=LB->gX c a ((is.map .int).zip xs)
 |strs {is:List Str}{vs:List LD}{xs:List O}{ep:Nat}:c.base.DictAt (ang c.prog c.w) a (is.zip vs) ep->ja c vs xs->is.length=vs.length->(a == agK)=LB->gX c a ((is.map .str).zip xs)
theorem DictAt.stays{P:ajI}{w:ac9}{K:Type} [DecidableEq K] {b:KeyKind P w K}{h h':VG}{a:LP}{e:List (K×LD)}{ep:Nat}(x:h.DictAt b a e ep) (k:h.StaysIn h'):h'.DictAt b a e ep :=pg x λo es i r=>⟨o,es,k _ _ i,r⟩
theorem acQ(h:apA k v=W):∃t,v = .int k t:=by
 cases v<;>first|(cases h;done)|skip
 rename_i i t
 have:(i == k)=W:=h;rw[ajR.mp this];exact⟨t,rfl⟩
theorem Qe{K:Type} [DecidableEq K] {z:KeyKind c.prog c.w K}{a:LP}{b:List (K×LD)}{A:Nat}{g:K->O}(hq:c.quiet=W) (L:(a == agK)=LB) (D:c.base.DictAt z a b A) (M:∀k v V h,z.is k v=W->Rel V h v (g k)): tJ c f tg (.gl a) σ (λi x _=>∃p,b[i]?=Y p/\x=g p.1) (λi _=>b[i]?=LA):=λ{l v s P E} j r h=>by
 refine r.yJ ?_;refine wpAny_pyIter_dict L (DictAt.stays D j.g.stays) ?_;refine h _ _ (λ_ i σ h=>ju c _ "dict_keyiterator" #[.ref a,.int i 0,.int b.length 0,.int A 0] σ h/\True) _ s.toks (λf'=>A8 (f:=f') (T:="dict_keyiterator") (D:=λi=>#[.ref a,.int i 0,.int b.length 0,.int A 0]) (Src:=λ_ _=>True) (by decide) (by decide) (λ_ _ _ _=>trivial) (λ_ _ _=>trivial) ?_ ?_) (CE (D:=λi=>#[.ref a,.int i 0,.int b.length 0,.int A 0]) (Src:=λ_ _ _=>True) (by decide) λ_ _=>trivial) (λ_ st h=>wpAny_pyIter_keyiter st.1.2.2 h) vY (gH _ _) ⟨Cq j,trivial⟩
 .intro i l σ s y P E j m _ G C;refine k7 m λ_ _ o e d1 B=>?_;obtain⟨⟨k,w⟩,I,rfl⟩:=G;exact wpAny_pyNext_dict_item (i:=i) ⟨o,e,d1,B⟩ (DictAt.stays D j.g.stays) I λS h' N hit sb=>C _ h' s.toks hit sb (M _ _ _ _ N)
 .intro i l σ s P E j m _ Z C;refine k7 m λ_ _ o e d1 B=>?_;exact wpAny_pyNext_dict_end (i:=i) (j.g.hand hq) ⟨o,e,d1,B⟩ (DictAt.stays D j.g.stays) Z λh' H=>C h' s.toks H
theorem Vp{x:List (AK×O)}(hq:c.quiet=W)(D:gX c a x):∃m w,tJ c f tg (.gl a) σ m w/\(∀i H p,x[i]?=Y p->m i p.1.av H)/\(∀i H,x[i]?=LA->w i H):=by
 rcases D with @⟨ks,vs,xs,A,D,r,e,z⟩| @⟨ks,vs,xs,A,D,r,e,z⟩
 .refine⟨_,_,Qe (g:=λk=>.int k) hq z D λk v V h q=>by refine LJ (acQ q) λt b=>?_;subst b;exact .int _ _,λi H p j=>?_,λi H j=>?_⟩
  .refine bg (ajC.mp j) λh1 B=>?_;rw[abI]at h1;refine aM (akt.mp h1) λk y e1=>?_;have lt:i < vs.length:=by rw[←e];exact(Sa.mp y).1
   exact⟨(k,vs[i]),ajC.mpr ⟨y,WB lt⟩,by rw[←e1];rfl⟩
  .rw[VS,aoN]at j ⊢;rw[QC]at j;rw[r.length]at *
   omega
 .refine⟨_,_,Qe (g:=λk=>.str k) hq z D λk v V h q=>by refine LJ (alB (show ajo k v=W from q)) λt b=>?_;subst b;exact .str _ _,λi H p j=>?_,λi H j=>?_⟩
  .refine bg (ajC.mp j) λh1 B=>?_;rw[abI]at h1;refine aM (akt.mp h1) λk y e1=>?_;have lt:i < vs.length:=by rw[←e];exact(Sa.mp y).1
   exact⟨(k,vs[i]),ajC.mpr ⟨y,WB lt⟩,by rw[←e1];rfl⟩
  .rw[VS,aoN]at j ⊢;rw[QC]at j;rw[r.length]at *
   omega
end
noncomputable def noStar:List LF->Bool
 | []=>W
 | .Starred .. :: _=>LB
 |_::r=>noStar r
theorem Rp{e:LF}{r:List LF}(h:noStar (e::r)=W):noStar r=W/\∀env,akr (e::r) env=(LB,eval e env)::akr r env:=by
 cases e<;>first|exact⟨h,λ_=>rfl⟩|exact bL h
theorem AP(pos:Pos)(env:Env){a:List LF}:noStar a=W->alj pos (akr a env)=a.map λe=>(LB,eval e env):=by
 induction a with
 |nil=>exactλ_=>rfl
 |cons e r b =>
  intro h;have b:=b (Rp h).1;unfold alj at b ⊢;rw[(Rp h).2,VR,VR,b];rfl
theorem KP(env:Env):∀(a:List LF),(a.map λe=>(LB,eval e env)).any (·.1)=LB:=by
 intro a;induction a with
 |nil =>
  exact rfl
 |cons _ r b =>
  exact by rw[VR,ajX,b];rfl
theorem all_plain(env:Env):∀(a:List LF),(a.map λe=>(LB,eval e env)).all (!·.1)=W:=by
 intro a;induction a with
 |nil =>
  exact rfl
 |cons _ r b =>
  exact by rw[VR,alS,b];rfl
noncomputable def qy:LF->Bool
 | .Call (.Name ..) [] [] _=>LB
 |_=>W
theorem D3(h:qy o=W):attributeBase o attr env t=t:=by
 revert h;cases o<;>first|exactλ_=>rfl|skip
 rename_i b a k p
 cases b<;>first|exactλ_=>rfl|skip
 cases a<;>first|exactλ_=>rfl|skip
 cases k<;>first|exactλ_=>rfl|exactλh=>nomatch h
section
variable{c:GC}{f:Fc}{l:Lc}{σ ain:Sg}{s s':LG}{Q:QV}{X:QX}
def jy(c:GC)(f:Fc):List LF->Lc->Sg->(List O->Sg->Prop)->QX->Prop
 | [],l,σ,Q,X=>Q [] σ
 |e::r,l,σ,Q,X=>bF c f e l σ (λx a=>jy c f r l a (λxs b=>Q (x::xs) b) X) X
theorem DG:∀{a:List LF}{σ:Sg}{Q:List O->Sg->Prop},jy c f a l σ Q X->qY c f (alC (a.map λe=>(LB,eval e f.env))) l σ Q X:=by
 intro a;induction a with
 |nil =>
  exact@λ_ _ h=>YG h
 |cons e r j =>
  exact@λ_ _ h=>YF (j4.mono h (λx i b=>j b) λ_ _ z=>z)
def eZ(c:GC)(f:Fc)(fv:LD)(xs:List O)(l:Lc)(σ:Sg)(Q:QV)(X:QX):Prop :=∀vs s,R c f l σ s->bh (σ.V f.pv) s.heap vs xs->wpAny (LS c.prog c.w) f.A (call fv vs) (jv c f l σ s Q) (dH c f σ s λl' x ain=>l'=l/\X x ain) s
def dX(c:GC)(fv:LD):Prop:=∀h,c.K.In h->∃k,(k=Keeper.frame∨k=Keeper.machine∨k=Keeper.boundFrame)/\ala (LS c.prog c.w) h (keeperOf fv) k
theorem dX.bi(id:String):dX c (.builtin id):=λh _=>⟨.machine,.inr (.inl rfl),apX⟩
theorem dX.ty(id:String):dX c (.type id):=λh _=>⟨.machine,.inr (.inl rfl),apX⟩
theorem dX.K(h:amU c.K fv=W):dX c fv:=λh' X=>keeps_K h h' X
theorem MJ(B:dX c fv)(z:noStar args=W)(h:jy c f args l σ (λxs a=>eZ c f fv (fs++xs) l a Q X) X)(j:R c f l σ s)(rf:bh (σ.V f.pv) s.heap first fs): wpAny (LS c.prog c.w) f.A (callWith pos fv first (alj pos (akr args f.env)) []) (jv c f l σ s Q) (dH c f σ s λl' x ain=>l'=l/\X x ain) s:=by
 rw[AP pos f.env z];refine aog (P:=λh=>c.K.In h) (by rw[KP];rfl) B ?_;induction args using cL with
 |nil=>exact evalArgs_nil3 ⟨ik j.g,h (first++[]) s j (by rw[VJ,VJ];exact rf)⟩
 |cons e r =>
  refine evalArgs_plain (wC (DG (Q:=λxs a=>eZ c f fv (fs++xs) l a Q X) h s j) (λvs m xs a r i b y=>⟨ik i.g,?_⟩) λ_ _ p=>p);exact VL (y (first++vs) m i ((rf.step b j.own).append r)) (λ_ _ p=>p.after b) λ_ _ p=>p.after b
noncomputable def O.fv:O->Option LD | .gl a=>Y (.ref a)| .bi i=>Y (.builtin i)| .ty n=>Y (.type n)|_=>LA
theorem Rel.fv(r:Rel V h v x)(e:x.fv=Y w):v=w:=by cases r<;>first|(cases e;rfl)|exact bR e
theorem Yg(A:noStar args=W)(h:bF c f (.Name x np) l σ (λy a=>∃fv,y.fv=Y fv/\dX c fv/\jy c f args l a (λxs i=>eZ c f fv xs l i Q X) X) X):bF c f (.Call (.Name x np) args [] pos) l σ Q X:=λs z =>
 ak5 (dc (h s z) (λv w y a r j b ⟨fv,e,B,m⟩=>by
  rw[r.fv e];exact VL (MJ (fs:=[]) B A m j .nil) (λ_ _ p=>p.after b) λ_ _ p=>p.after b) λ_ _ p=>p)
def tN(c:GC)(f:Fc)(name:Str)(x:O)(l:Lc)(σ:Sg)(Q:LD->List O->Prop):Prop :=∀{v s} {P:LD×List LD->LG->Prop}{E:LD->LG->Prop}{pl:Sem Bool},R c f l σ s->Rel (σ.V f.pv) s.heap v x->(∀fv fs xs t,Q fv xs->bh (σ.V f.pv) s.heap fs xs->P (fv,fs) {s with toks:=t})->wpAny (LS c.prog c.w) f.A (ao8 v name pl) P E s
theorem DI(B:noStar args=W)(hb:qy o=W)(E:(apos.endLine == pos.line)=W)(A:args.length < 30)(h:bF c f o l σ (λx a=>tN c f name x l a λfv fs=>dX c fv/\jy c f args l a (λxs m=>eZ c f fv (fs++xs) l m Q X) X) X):bF c f (.Call (.Attribute o name apos) args [] pos) l σ Q X:=λs D=>by
 show wpAny _ _ (eval (.Call (.Attribute o name apos) args [] pos) f.env) _ _ _;rw[arm_eval_Call,D3 hb];refine wpAny_bind (dc (h s D) (λv C x a r i e w=>wpAny_bind (ajr ?_)) λ_ _ p=>p);have b:amY (args.length+([]:List ao4).length) (alj pos (akr args f.env)) (backToKw pos (aoh [] f.env))=W:=by
  rw[AP pos f.env B];unfold amY;rw[all_plain];rw[show backToKw pos (aoh [] f.env)=[] from rfl]
  simpa using A
 have j:alT W o f.env apos pos=pure pos:=by unfold alT;simp[E]
 unfold methodCall;rw[b];refine wpAny_bind (aas (w i r λfv fs xs t H rf=>bg H λG y=>?_));refine wpAny_bind (amL j ?_);have z:=MJ (fs:=xs) (first:=fs) (pos:=pos) G B y (i.tok t) rf;exact VL z (λ_ _ p=>qX.after e p) λ_ _ p=>gJ.after e p
theorem Xe(h:j0 c f.n fv xs σ Q X):eZ c f fv xs l σ Q X:=λvs s j r=>by
 refine al7 (aj6 (h f.pv f.fr f.A s vs j.g r) λB s' p=>?_);have E:∀{ain:Sg},Rg c f.n f.pv f.fr f.A ain s'->aJ (λ_=>False) f.pv σ s.heap ain s'.heap->R c f l ain s':=λ{ain} G S=>j.move G (S.go λ_ z=>z.elim) λb hb o e=>by
  refine hZ (j.g.dg b (j.own b hb)) λun _ o2 e2 n=>?_;rw[e]at e2;have i:=LC e2;clear e2;subst i;refine fS (S.keep b o e (λz=>z) un) λ_ k _=>?_;refine aM (k (.inl n)) λI e' w=>?_;exact⟨I,e',(w.1 n).1⟩
 rcases B with e|(_|_|_|v)
 .refine vg p λx ain T G S q=>?_;refine⟨x,l,ain,T.go Go.refl λa L vs _ D C Z=>?_,E G S,S.weak λ_ z=>z.elim,rfl,q⟩
  rename_i H
  subst H;refine nM T.lP λM N e1 _ y _ m=>?_;rw[D]at e1;have i:=LC e1;clear e1;subst i;rw[C]at y;have i:=aln y;clear y;subst i;exact⟨L,vs,D,rfl,rfl,C,m.imp_right λz=>z.elim .inl .inl⟩
 .exact p.elim
 .exact p.elim
 .exact p.elim
 .refine vg p λx ain r G S q=>?_;exact⟨x,ain,r,E G S,S.weak λ_ z=>z.elim,q⟩
end
noncomputable def Sg.free(g:Sg)(k:Nat):Sg:=⟨g.H.set k .dead,g.μ,λa=>if (g.σ a).map (·.1)=Y k then LA else g.σ a⟩
section
variable{c:GC}{n:Nat}{pv:LP->Prop}{fr:List Env}{A A':adh}{f:Fc}{l:Lc}{σ ain:Sg}{s s':LG}{Q:QV}{X:QX}
theorem BO(h:σ.σ a=LA):(σ.free k).σ a=LA:=by
 show(if (σ.σ a).map (·.1)=Y k then LA else σ.σ a)=LA;rw[h];simp
theorem abO(h:σ.σ a=Y (k,b)):(σ.free k).σ a=LA:=by
 show(if (σ.σ a).map (·.1)=Y k then LA else σ.σ a)=LA;rw[h];simp
theorem abN(h:σ.σ a=Y (i,b))(hi:i≠k):(σ.free k).σ a=Y (i,b):=by
 show(if (σ.σ a).map (·.1)=Y k then LA else σ.σ a)=_;rw[h,QE (by simpa using hi)]
theorem Go.free:Go (σ.V pv) h ((σ.free k).V pv) h :=⟨by show _<=(σ.H.set k .dead).length;rw[ajW];exact LL _,λ_ _=>rfl,λb o _ t q=>t (q.elim (λz=>.inl λw=>z (BO w)) .inr),λb o e _ _=>⟨o,e,.rfl⟩⟩
theorem Rg.free(G:Rg c n pv fr A σ s)(k:Nat):Rg c n pv fr A (σ.free k) s where
 stays:=G.stays
 frames:=G.frames
 stack:=G.stack
 hand:=G.hand
 depth:=G.depth
 units:=G.units
 fJ:=G.fJ
 dg:=λa q=>bg (G.dg a q) λx y=>⟨BO x,y⟩
 objs:=λi m e=>by
  have e:(σ.H.set k .dead)[i]?=Y m:=e;by_cases hi:k=i
  .subst hi;by_cases lt:k < σ.H.length
   .rw[akq lt]at e;have w:=LC e;clear e;subst w;trivial
   .rw[VO (by rw[ajW];lia)]at e;exact bR e
  .rw[WC hi]at e;have x:=G.objs i m e;have h:∀a b,σ.σ a=Y (i,b)->(σ.free k).σ a=Y (i,b):=λa b z=>abN z (aaU hi);cases m with
   |lst xs=>refine dD x λe vs n g r=>?_;exact⟨h _ _ e,vs,n,g,r.go Go.free⟩
   |bD fs=>refine w4 x λe es n g r q=>?_;exact⟨h _ _ e,es,n,g,r.go Go.free,q⟩
   |inst C fs=>refine nL x λe d es n e2 g p r=>?_;exact⟨h _ _ e,d,es,n,h _ _ e2,g,p,r.go Go.free⟩
   |exc C fs=>refine dD x λe t j g r=>?_;exact⟨h _ _ e,t,j,g,r.move Go.free (λb q z=>h b _ z) λ_ _ _ _ z _=>z⟩
   |dead=>trivial
 own:=λa q=>G.own a λz=>q (BO z)
 gens:=G.gens
 os:=G.os
theorem aJ.free{P:LP->Prop}(k:Nat):aJ P pv σ h (σ.free k) h :=⟨by show _<=(σ.H.set k .dead).length;rw[ajW];exact LL _,λ_ _=>rfl,λb o e _ q=>⟨BO q,.same e⟩⟩
theorem yG(G:Rg c n pv fr A σ s)(h:σ.σ a=Y (k,b)):¬((σ.free k).V pv).T a:=λq=>q.elim (λz=>z (abO h)) λz=>by
 have:=(G.dg a z).1;rw[h]at this;exact fZ this
theorem abM(G:Rg c n pv fr A σ s)(b:σ.H[k]?=Y (.inst C fs)):Rel ((σ.free k).V pv) s.heap (.ref (σ.μ k)) (.obj C fs):=by
 refine nL (G.objs k _ b) λe d es n e2 g a r=>?_;exact .obj (yG G e) (yG G e2) g a (r.go Go.free)
theorem abL(G:Rg c n pv fr A σ s)(a:σ.H[k]?=Y (.lst xs)):Rel ((σ.free k).V pv) s.heap (.ref (σ.μ k)) (.lst xs):=by
 refine dD (G.objs k _ a) λe vs n g r=>?_;exact .lst (yG G e) g (r.go Go.free)
theorem R.free(a:R c f l σ s)(k:Nat):R c f l (σ.free k) s:=a.move (a.g.free k) Go.free λb _ o e=>⟨o,e,rfl⟩
noncomputable def rB:MO->Option O
 | .lst xs=>Y (.lst xs)
 | .inst C fs=>Y (.obj C fs)
 |_=>LA
theorem EU(G:Rg c n pv fr A σ s)(b:σ.H[k]?=Y m)(e:rB m=Y y):Rel ((σ.free k).V pv) s.heap (.ref (σ.μ k)) y:=by
 cases m<;>first|(cases e;done)|skip
 .have a:=LC e;clear e;subst a;exact abL G b
 .have a:=LC e;clear e;subst a;exact abM G b
theorem qX.freeze(h:jv c f l σ s (λy ain=>∃k m z,y = .ref k/\ain.H[k]?=Y m/\rB m=Y z/\∀b:Sg,b.H=ain.H.set k .dead->Q z b) v s'):jv c f l σ s Q v s':=by
 obtain⟨x,ain,r,a,S,k,m,z,rfl,i,e,q⟩:=h;refine r.jo λ_=>?_;exact⟨z,ain.free k,EU a.g i e,a.free k,S.trans (aJ.free k),q _ rfl⟩
theorem j4.freeze(h:j4 c f t l σ (λy ain=>∃k m z,y = .ref k/\ain.H[k]?=Y m/\rB m=Y z/\∀a:Sg,a.H=ain.H.set k .dead->Q z a) X):j4 c f t l σ Q X:=λs b => VL (h s b) (λ_ _ p=>p.freeze) λ_ _ p=>p
theorem Rg.xh(G:Rg c n pv fr A σ s)(b:A'.frames=A.frames)(e:c.quiet=W->A'.handled=LA)(a:A'.depth+3 * n'<=950)(h:A'.units+30 * n'<=9000):Rg c n' pv fr A' σ s :=⟨G.stays,G.frames,b.trans G.stack,e,a,h,G.fJ,G.dg,G.objs,G.own,G.gens,G.os⟩
theorem xr(C:LP)(rest:List LD)(a:List (Str×LD)):(A.under (.builtin "type.__call__" ⟨.ref C::rest,a⟩)).frames=A.frames:=by
 show pushEnvs (Code.envs (.builtin "type.__call__" ⟨.ref C::rest,a⟩)) A.frames=_;rw[show Code.envs (.builtin "type.__call__" ⟨.ref C::rest,a⟩)=[] from rfl];cases A.frames<;>rfl
theorem TK(C:LP)(rest:List LD)(a:List (Str×LD)):(A.under (.builtin "type.__call__" ⟨.ref C::rest,a⟩)).depth<=A.depth+3:=by
 show A.depth+apB (.builtin "type.__call__" ⟨.ref C::rest,a⟩)<=_;exact ajh (show apB (.builtin "type.__call__" ⟨.ref C::rest,a⟩)<=3 from LQ (by rfl)) _
theorem TL(C:LP)(rest:List LD)(a:List (Str×LD)):(A.under (.builtin "type.__call__" ⟨.ref C::rest,a⟩)).units<=A.units+30:=by
 show A.units+apC (.builtin "type.__call__" ⟨.ref C::rest,a⟩)<=_;exact ajh (show apC (.builtin "type.__call__" ⟨.ref C::rest,a⟩)<=30 from LQ (by rfl)) _
theorem call_cls(hm:makesIn c.K C=W)(hi:aeJ c.K (.ref C) "__init__" = Y (Y (.ref fI)))(hf:alo c.K (.ref fI)=Y (.type "function"))(h:∀L:Sg,L.H=σ.H++[.inst C []]->j0 c (n+1) (.ref fI) (.ref σ.H.length::xs) L (λr B=>r = .none/\Q (.ref σ.H.length) B) X):j0 c (n+2) (.ref C) xs σ Q X:=by
 intro pv fr A s i G r;have X0:=ik G;obtain⟨a,g,d,t,os⟩:=s;have k:a.StaysIn ((a.push aeP).push (ajN C a.objs.size)):=λb o e=>UB _ (UB _ e);have e1:((a.push aeP).push (ajN C a.objs.size)).get? (a.objs.size+1)=Y (ajN C a.objs.size):=by heap_get
 have e2:((a.push aeP).push (ajN C a.objs.size)).get? a.objs.size=Y (aaR [] 0):=UB _ (VU _ rfl);have I:∀x,(Y a.objs.size:Option LP)=Y x->a.objs.size<=x/\∃o,((a.push aeP).push (ajN C a.objs.size)).get? x=Y o:=λx e=>by have zq:=LC e;clear e;subst zq;exact⟨LL _,_,e2⟩
 have D:(σ.add (a.objs.size+1) (.inst C []) (Y a.objs.size)).μ σ.H.length=a.objs.size+1:=VD rfl;have ok:Ok c.w.params (σ.add (a.objs.size+1) (.inst C []) (Y a.objs.size)) ((σ.add (a.objs.size+1) (.inst C []) (Y a.objs.size)).V pv) ((a.push aeP).push (ajN C a.objs.size)) σ.H.length (.inst C []):=by
  refine⟨by rw[D];exact VD rfl,a.objs.size,[],0,?_,by rw[D];exact e1,e2,.nil⟩;show(if a.objs.size=a.objs.size+1 then _ else if Y a.objs.size=Y a.objs.size then _ else _)=_;rw[QE (WA (ajj _)),VD rfl]
 have M:=Rg.add G (h':=(a.push aeP).push (ajN C a.objs.size)) k (ajq _) ⟨_,e1⟩ I ok;have S1:aJ (λ_=>False) pv σ a (σ.add (a.objs.size+1) (.inst C []) (Y a.objs.size)) ((a.push aeP).push (ajN C a.objs.size)):=aJ.add G k (ajq _) λx e=>(I x e).1;have go:Go (σ.V pv) a ((σ.add (a.objs.size+1) (.inst C []) (Y a.objs.size)).V pv) ((a.push aeP).push (ajN C a.objs.size)):=S1.go λ_ z=>z.elim;have Z:=G.depth;have hun:=G.units;have d1:=TK (A:=A) C i [];have u1:=TL (A:=A) C i [];have N:=M.xh (A':=A.under (.builtin "type.__call__" ⟨.ref C::i,[]⟩)) (n':=n+1) (xr C i []) G.hand (by lia) (by lia);refine make_core (makes_of X0 hm) (akS X0 hi) (λj=>bind_fn X0 j hf) (.inl rfl) (aj6 (h _ rfl pv fr _ _ (.ref (a.objs.size+1)::i) N (.cons Rel.added (r.go go))) λE s' p=>?_);rcases E with e|(_|_|_|v)
 .refine vg p λx ain T y S q=>?_;exact⟨x,ain,T,y.xh (xr C i []).symm G.hand G.depth G.units,S1.trans S,q⟩
 .exact p.elim
 .exact p.elim
 .exact p.elim
 .refine nM p λx ain rv y S m q=>?_;subst m;cases rv.none_inv;refine⟨rfl,.ref σ.H.length,ain,?_,y.xh (xr C i []).symm G.hand G.depth G.units,S1.trans S,q⟩;have lt:σ.H.length < (σ.add (a.objs.size+1) (.inst C []) (Y a.objs.size)).H.length:=by show _ < (σ.H++[_]).length;simp
  have e:=(S.mu σ.H.length lt).trans D;have z:Rel (ain.V pv) s'.heap (.ref ((ain.V pv).μ σ.H.length)) (.ref σ.H.length):=.ref (LR lt S.n)
  rwa [show(ain.V pv).μ σ.H.length=a.objs.size+1 from e]at z
end
section
variable{c:GC}{f:Fc}{l:Lc}{σ ain:Sg}{s s':LG}{Q:QV}{X:QX}
def qV(K:aeb)(C:LP)(name:Str)(a:LP):Prop:=aeJ K (.ref C) name=Y (Y (.ref a))/\alo K (.ref a)=Y (.type "function")
theorem J0{M:al3}{x C b:LP}{es:List QA}{n:Nat}{fs:List (Str×O)}{name:Str}{a:LP}{V:Vw}{A:adh}{E:LD->LG->Prop}{P:LD×List LD->LG->Prop}{pl:Sem Bool}(X0:c.K.In s.heap)(e1:s.heap.get? x=Y (ajN C b))(e2:s.heap.get? b=Y (aaR es n))(ok:jH c.K C)(mk:qV c.K C name a)(r:cD V s.heap es fs)(e:fs.lookup name=LA)(h:P (.ref a,[.ref x]) s): wpAny (LS c.prog c.w) A (ao8 (.ref x) name pl) P E s:=method_fn X0 (I:=⟨e1,rfl,rfl,e2⟩) (od:=Y (aaR es n)) (aod (name:="") ok.get).1 (aod (name:="") ok.get).2 mk.1 mk.2 (by show(lookIn name (aaR es n)).map _=_;rw[aoe,cD.miss name r e];rfl) h
theorem V4{k:Nat}{C:LP}{fs:List (Str×O)}{name:Str}{a:LP}{Q:LD->List O->Prop}(j:σ.H[k]?=Y (.inst C fs))(ok:jH c.K C)(mk:qV c.K C name a)(m:fs.lookup name=LA)(h:Q (.ref a) [.ref k]):tN c f name (.ref k) l σ Q:=λ{v s P E pl} b r p=>by
 refine r.jo λlt=>?_;refine nL (b.g.objs k _ j) λe d es n e2 g i r=>?_;exact J0 (M:=LS c.prog c.w) (ik b.g) g i ok mk r m (p _ _ _ s.toks h (.cons (.ref lt) .nil))
theorem V3{C:LP}{fs:List (Str×O)}{name:Str}{a:LP}{Q:LD->List O->Prop}(ok:jH c.K C)(mk:qV c.K C name a)(i:fs.lookup name=LA)(h:Q (.ref a) [.obj C fs]):tN c f name (.obj C fs) l σ Q:=λ{v s P E pl} e r j=>by
 refine r.Iz λ_ _ _ _ t m g b r=>?_;exact J0 (M:=LS c.prog c.w) (ik e.g) g b ok mk r i (j _ _ _ s.toks h (.cons (.obj t m g b r) .nil))
def vw(σ:Sg):O->String->Prop
 | .str _,T=>T = "str"
 | .lst _,T=>T = "list"
 | .tup _,T=>T = "tuple"
 | .ref k,T=>(∃xs,σ.H[k]?=Y (.lst xs)/\T = "list")∨∃fs,σ.H[k]?=Y (.bD fs)/\T = "dict"
 |_,_=>False
theorem vw.at_(i:R c f l σ s)(r:Rel (σ.V f.pv) s.heap v x)(t:vw σ x T):s.TypeIs v T/\∀a,v = .ref a->∃o,s.heap.get? a=Y o/\o.dict=LA:=by
 cases r<;>first|exact t.elim|skip
 .subst t;exact⟨aoI _ _ _,λ_ e=>nomatch e⟩
 .rcases t with ⟨xs,h,rfl⟩|⟨fs,h,rfl⟩
  .refine dD (i.g.objs _ _ h) λ_ vs n g _=>?_;exact⟨⟨_,g,rfl⟩,λa e=>by have b:=ajL e;clear e;subst b;exact⟨_,g,rfl⟩⟩
  .refine dD (i.g.objs _ _ h) λ_ es n g _=>?_;exact⟨⟨_,g,rfl⟩,λa e=>by have b:=ajL e;clear e;subst b;exact⟨_,g,rfl⟩⟩
 .rename_i g _;subst t;exact⟨⟨_,g,rfl⟩,λa e=>by have b:=ajL e;clear e;subst b;exact⟨_,g,rfl⟩⟩
 .rename_i g _;subst t;exact⟨⟨_,g,rfl⟩,λa e=>by have b:=ajL e;clear e;subst b;exact⟨_,g,rfl⟩⟩
theorem V1{x:O}{T:String}{name:Str}{id:String}{Q:LD->List O->Prop}(t:vw σ x T)(p:PlainAttrs T)(a:Slot T name id)(b:amZ (.builtin id)=pure (.type "method_descriptor"))(h:Q (.builtin id) [x]):tN c f name x l σ Q:=λ{v s P E pl} e r m=>by
 refine bg (t.at_ e r) λi j=>?_;exact an0 i p a b j (m _ _ _ s.toks h (.cons r .nil))
theorem JL(j:σ.H[k]?=Y (.lst xs))(w:xs.length<=WE)(h:∀m:Sg,m.H=σ.H.set k (.lst (xs++[y]))->Q .none m):eZ c f (.builtin "list.append") [.ref k,y] l σ Q X:=λvs s i r=>by
 refine r.xw λ_ u a b=>?_;refine a.jo (P:=λv=>wpAny _ _ (call _ [v,u]) _ _ _) λ_=>?_;refine dD (i.g.objs k _ j) λe us n g r=>?_;refine al8 (T:="list") amj ⟨_,g,rfl⟩ PySem.F.entry_list_append (PySem.F.args_list_append_2 _ _) (list_append (σ.μ k) us.toArray n u (by rw[QD,r.length];exact w)) ⟨g,?_⟩;refine bg (CZ (ys:=xs++[y]) (g:=λx=>x.push u) (ws:=us++[u]) i j e rfl g (by simp) (r.append (.cons b .nil))) λp q=>?_;exact⟨.none,_,.none,p.tok _,q,h _ rfl⟩
theorem bh.last(r:bh V h vs xs)(e:xs.getLast? = Y y):∃v,vs[vs.length - 1]?=Y v/\Rel V h v y:=by
 rw[List.getLast?_eq_getElem?]at e;refine aM (r.get e) λv a rv=>?_;exact⟨v,by rw[r.length];exact a,rv⟩
theorem Vc(i:σ.H[k]?=Y (.lst xs))(z:xs.length<=WE)(w:xs.getLast? = Y y)(h:∀m:Sg,m.H=σ.H.set k (.lst xs.dropLast)->Q y m):eZ c f (.builtin "list.pop") [.ref k] l σ Q X:=λvs s b r=>by
 refine r.wQ λ_ a=>?_;refine a.jo (P:=λv=>wpAny _ _ (call _ [v]) _ _ _) λ_=>?_;refine dD (b.g.objs k _ i) λe us n g r=>?_;refine aM (r.last w) λu j A=>?_;refine al8 (T:="list") am0 ⟨_,g,rfl⟩ PySem.F.entry_list_pop (PySem.F.args_list_pop_1 _) (MeetsSeq.list_pop_last (σ.μ k) us.toArray n u (by simpa using j) (by rw[QD,r.length];exact z)) ⟨g,?_⟩;obtain⟨p,q⟩:=CZ (ys:=xs.dropLast) (g:=λx=>x.eraseIdxIfInBounds (us.toArray.size - 1)) (ws:=us.dropLast) b i e rfl g (by
  rw[QD];have lt:us.length - 1 < us.length:=(Sa.mp j).1;rw[Array.eraseIdxIfInBounds,dif_pos (by simpa using lt)];simp[List.eraseIdx_length_sub_one]) r.dropLast
 refine⟨y,_,?_,p,q,h _ rfl⟩;exact A.step q b.own
theorem H3(a:R c f l σ s)(h:Q (.int n) σ):jv c f l σ s Q (.int n t) {s with toks:=t'}:=dF a (.int _ _) h
theorem U7(e:xs.length<=2 ^ 62)(h:Q (.int xs.length) σ):eZ c f (.builtin "len") [.lst xs] l σ Q X:=λvs s b r=>by
 refine r.wQ λ_ a=>?_;refine a.lstK (P:=λv=>wpAny _ _ (call _ [v]) _ _ _) λa us n t g r=>?_;exact call_len_list (items:=us.toArray) ⟨_,g,rfl,_,rfl⟩ (by rw[QD,r.length];lia) (by rw[QD,r.length];exact H3 b h)
theorem U8(i:σ.H[k]?=Y (.lst xs))(j:xs.length<=2 ^ 62)(h:Q (.int xs.length) σ):eZ c f (.builtin "len") [.ref k] l σ Q X:=λvs s b r=>by
 refine r.wQ λ_ a=>?_;refine a.jo (P:=λv=>wpAny _ _ (call _ [v]) _ _ _) λ_=>?_;refine dD (b.g.objs k _ i) λe us n g r=>?_;exact call_len_list (items:=us.toArray) ⟨_,g,rfl,_,rfl⟩ (by rw[QD,r.length];lia) (by rw[QD,r.length];exact H3 b h)
theorem U9(e:xs.length<=2 ^ 62)(h:Q (.int xs.length) σ):eZ c f (.builtin "len") [.tup xs] l σ Q X:=λvs s b r=>by
 refine r.wQ λ_ a=>?_;refine a.tupK (P:=λv=>wpAny _ _ (call _ [v]) _ _ _) λa us n t g r=>?_;exact PySem.P.len_tuple (items:=us.toArray) g (by rw[QD,r.length];lia) (by rw[QD,r.length];exact H3 b h)
end
structure JV (K:aeb) (D:LP):Prop where
 get:aoo K D "__class__" = W
 dict:ajM K D=W
 cls:aeJ K (.ref D) "__class__" = Y (Y (.builtin "object.__class__"))
 sp:akA K (.builtin "object.__class__") "__get__" = Y (Y (.builtin "getset_descriptor.__get__"))
 tk:takesIn K (.builtin "object.__class__")=Y W
 mro:mroIn K D (.type "object")=Y W
section
variable{c:GC}{f:Fc}{l:Lc}{σ ain:Sg}{s s':LG}{Q:QV}{X:QX}
inductive tI (σ:Sg):O->LP->Prop
 |obj {C fs}:tI σ (.obj C fs) C
 |ref {k C fs}:σ.H[k]?=Y (.inst C fs)->tI σ (.ref k) C
theorem tI.at_(e:R c f l σ s)(r:Rel (σ.V f.pv) s.heap v x)(i:tI σ x C):∃a d es n,v = .ref a/\InstAt s.heap a (ajN C d) C (Y (aaR es n)):=by
 cases i with
 |obj=>refine r.Iz λa d es n _ _ g b _=>?_;exact⟨_,_,_,_,rfl,g,rfl,rfl,b⟩
 |ref h=>rw[r.nR.1];refine nL (e.g.objs _ _ h) λ_ d es n _ g b _=>?_;exact⟨_,_,_,_,rfl,g,rfl,rfl,b⟩
theorem U5(i:tI σ x C)(e:isIn c.K (.ref C) D=W)(h:Q (.bool W) σ):eZ c f (.builtin "isinstance") [x,.gl D] l σ Q X:=λvs s m r=>by
 refine r.xw λv _ a b=>?_;refine b.yJ (P:=λw=>wpAny _ _ (call _ [v,w]) _ _ _) ?_;refine zP (i.at_ m a) λa' d es n j I=>?_;subst j;exact isi_call (ik m.g) (λM=>I.type) e (by intro q;cases q) ⟨_,σ,.bool _,m,.refl,h⟩
theorem U4(i:tI σ x C)(j:JV c.K C)(e:kin_not c.K C D=W)(h:Q (.bool LB) σ):eZ c f (.builtin "isinstance") [x,.gl D] l σ Q X:=λvs s p r=>by
 refine r.xw λv _ a b=>?_;refine b.yJ (P:=λw=>wpAny _ _ (call _ [v,w]) _ _ _) ?_;refine zP (i.at_ p a) λa' d es n m I=>?_;subst m;exact kin_callC (ik p.g) I e j.get j.dict j.cls j.sp j.tk j.mro (dF p (.bool _) h)
noncomputable def tyName(σ:Sg):O->Option String
 | .none=>Y "NoneType"
 | .str _=>Y "str"
 | .int _=>Y "int"
 | .lst _=>Y "list"
 | .tup _=>Y "tuple"
 | .ref k=>match σ.H[k]? with|some (.lst _)=>Y "list" |_=>LA
 |_=>LA
theorem ahp{x:O}{T:String}{v:LD}(b:R c f l σ s)(r:Rel (σ.V f.pv) s.heap v x):eP (tyName σ x) (λT=>∃H,KitX c.K v (.type T) H/\H s.heap/\v ≠ .builtin "__main__.__loader__#opaque") True:=by
 cases x<;>first|exact trivial|skip
 .rw[r.none_inv];exact⟨_,kitx_none,trivial,λq=>nomatch q⟩
 .refine LJ r.int_inv λt e=>?_;rw[e];exact⟨_,kitx_int,trivial,λq=>nomatch q⟩
 .refine LJ r.str_inv λt e=>?_;rw[e];exact⟨_,kitx_str,trivial,λq=>nomatch q⟩
 .rename_i k
  rw[r.nR.1];show eP (match σ.H[k]? with|some (.lst _)=>Y "list" |_=>LA) _ _;cases h:σ.H[k]? with
  |none=>exact trivial
  |some m =>
   cases m<;>first|exact trivial|skip
   refine dD (b.g.objs k _ h) λ_ us n g _=>?_;exact⟨_,kitx_list,⟨_,g,rfl⟩,λq=>nomatch q⟩
 .refine ph r.Jp λa vs n e _ g _=>?_;rw[e];exact⟨_,kitx_tuple,⟨_,g,rfl⟩,λq=>nomatch q⟩
 .refine ph r.lst_inv λa vs n e _ g _=>?_;rw[e];exact⟨_,kitx_list,⟨_,g,rfl⟩,λq=>nomatch q⟩
theorem Dq{x y:O}{T:String}{w:LD}{b:Bool}(m:tyName σ x=Y T)(hw:y.fv=Y w)(e:kitOne c.K (.type T) w=Y b)(h:Q (.bool b) σ):eZ c f (.builtin "isinstance") [x,y] l σ Q X:=λvs s i r=>by
 refine vf r.Jt λv u j a b=>?_;rw[j,b.fv hw];obtain⟨H,p,k2,z⟩:=eT (ahp (T:=T) i a) m;exact kia_one p (ik i.g) k2 e z λA=>dF i (.bool _) h
theorem NO(i:R c f l σ s)(D:Rel (σ.V f.pv) s.heap a (.ref k))(j:σ.H[k]?=Y (.lst xs))(E:xs.length+ys.length<=60000)(B:s.heap.get? b=Y {cls:=.type "list",data:=.seq us.toArray m})(y:bh (σ.V f.pv) s.heap us ys)(h:∀z:Sg,z.H=σ.H.set k (.lst (xs++ys))->Q .none z):wpAny (LS c.prog c.w) f.A (call (.builtin "list.extend") [a,.ref b]) (jv c f l σ s Q) (dH c f σ s λl' x ain=>l'=l/\X x ain) s:=by
 refine D.jo λ_=>?_;refine dD (i.g.objs k _ j) λe vs n g r=>?_;have G:=r.length;have I:=y.length;have sl:WE=16777216:=by decide
 refine al8 (T:="list") amk ⟨_,g,rfl⟩ PySem.F.entry_list_extend (PySem.F.args_list_extend_2 _ _)
  (AutoSeq1.list_extend_list_list_0 (σ.μ k) vs.toArray n b us.toArray m ?_ (by rw[QD,sl];lia) (by rw[QD,QD,sl];lia)) ⟨g,B,?_⟩
 .intro q;rw[LM]at q;have C:decide (vs.toArray.size+us.toArray.size > WE)=W:=q.2;rw[ajJ,QD,QD,sl]at C;lia
 .refine bg (CZ (ys:=xs++ys) (g:=λx=>x++us.toArray) (ws:=vs++us) i j e rfl g (by simp) (r.append y)) λp q=>?_;exact⟨.none,_,.none,p.tok _,q,h _ rfl⟩
theorem U1(m:σ.H[k]?=Y (.lst xs))(p:xs.length+ys.length<=60000)(h:∀e:Sg,e.H=σ.H.set k (.lst (xs++ys))->Q .none e):eZ c f (.builtin "list.extend") [.ref k,.lst ys] l σ Q X:=λvs s j r=>by
 refine r.xw λv _ a b=>?_;refine b.lstK (P:=λw=>wpAny _ _ (call _ [v,w]) _ _ _) λ_ _ _ _ i x=>?_;exact NO j a m p i x h
theorem U2(x:σ.H[k]?=Y (.lst xs))(e:σ.H[k2]?=Y (.lst ys))(y:xs.length+ys.length<=60000)(h:∀j:Sg,j.H=σ.H.set k (.lst (xs++ys))->Q .none j):eZ c f (.builtin "list.extend") [.ref k,.ref k2] l σ Q X:=λvs s i r=>by
 refine r.xw λv _ a b=>?_;refine b.jo (P:=λw=>wpAny _ _ (call _ [v,w]) _ _ _) λ_=>?_;refine dD (i.g.objs k2 _ e) λ_ us m p z=>?_;exact NO i a x y p z h
end
noncomputable def eQ(g:O->Option ajY):List O->Option (List ajY)
 | []=>Y []
 |x::r=>(g x).bind λd=>(eQ g r).bind λds=>Y (d::ds)
noncomputable def zw:MO->Option (List O)
 | .lst xs=>Y xs
 |_=>LA
def ahf(H:List MO)(g:O->Option ajY):O->Option ajY
 | .none=>Y .none
 | .bool b=>Y (.bool b)
 | .int i=>Y (.int i)
 | .str x=>Y (.str x)
 | .tup xs=>(eQ g xs).map .tuple
 | .lst xs=>(eQ g xs).map .list
 | .ref k=>((H[k]?).bind zw).bind λxs=>(eQ g xs).map .list
 |_=>LA
def toPy(H:List MO):Nat->O->Option ajY
 |0=>λ_=>LA
 |n+1=>ahf H (toPy H n)
theorem adH(h:zw m=Y xs):m = .lst xs:=by
 induction m with
 |lst ys=>exact congrArg _ (LC h)
 |_=>exact nK h
section
variable{c:GC}{f:Fc}{l:Lc}{σ ain:Sg}{s s':LG}{Q:QV}{X:QX}
theorem C7(m:∀{x d v},toPy σ.H n x=Y d->Rel (σ.V f.pv) s.heap v x->∃as,Reads s.heap v d as)(R:bh (σ.V f.pv) s.heap vs xs):eQ (toPy σ.H n) xs=Y ds->∃as,aos s.heap vs ds as :=R.ind (P:=λvs xs=>∀ds,eQ (toPy σ.H n) xs=Y ds->∃as,aos s.heap vs ds as) (λds e=>sE e ⟨[],.nil⟩) (λa _ i ds e => bK e λd p e=>bK e λh w e=>(m p a).elim λas h1=>(i _ w).elim λb j=>sE e ⟨as++b,.cons h1 j⟩) ds
theorem jV(p:R c f l σ s)(n:Nat):∀{x:O}{d:ajY}{v:LD},toPy σ.H n x=Y d->Rel (σ.V f.pv) s.heap v x->∃as,Reads s.heap v d as:=by
 induction n with
 |zero=>exactλe _=>nK e
 |succ n j =>
  intro x d v e r;refine r.inv (P:=λv=>∃as,Reads s.heap v d as) ?_;induction x using O.casesOn with
  |none=>exact sE e ⟨[],.none⟩
  |bool b=>exact sE e ⟨[],.bool _⟩
  |int i=>exactλt=>sE e ⟨[],.int _ _⟩
  |str x=>exactλt=>sE e ⟨[],.str _ _⟩
  |ref k =>
   exactλlt=>bK e λxs q e=>bK q λm w q=>by
    obtain⟨_,vs,m,g,r⟩:=p.g.objs k _ (by rw[w,adH q]);exact H9 e λds q=>(C7 j r q).elim λas h=>⟨_,.list g rfl rfl (by simpa using h)⟩
  |tup xs=>exactλa vs n _ g r=>H9 e λds q=>(C7 j r q).elim λas h=>⟨_,.tuple g rfl rfl (by simpa using h)⟩
  |lst xs=>exactλa vs n _ g r=>H9 e λds q=>(C7 j r q).elim λas h=>⟨_,.list g rfl rfl (by simpa using h)⟩
  |_=>exact nK e
theorem R.units(a:R c f l σ s):f.A.units+64 < cLine:=by
 exact aeI (alp (LI (ajk _ _) a.g.units) 64) (show 9064 < 9900 by decide)
theorem wD(e:R c f l σ s)(h:b<=60):f.A.units+1+min a b < cLine:=aeI (ajh (LI (aot a b) h) _) (aeI (show f.A.units+61<=f.A.units+64 from ajh (by decide) _) e.units)
theorem Wl(n m:Nat)(b:toPy σ.H n x=Y d)(i:toPy σ.H m y=Y e)(s1:aj7 d=W)(A:aj7 e=W)(h:Q (.bool (VV d e)) σ):bY c f (VK .Eq) x y l σ Q X:=λv w s a r j=>by
 refine LJ (jV a n b r) λas p=>?_;refine LJ (jV a m i j) λB z=>?_;exact eq_dataH p z s1 A a.units ⟨_,σ,.bool _,a,.refl,h⟩
theorem WJ(n m:Nat)(b:toPy σ.H n x=Y d)(i:toPy σ.H m y=Y e)(s1:aj7 d=W)(A:aj7 e=W)(h:Q (.bool (!VV d e)) σ):bY c f (VK .NotEq) x y l σ Q X:=λv w s a r j=>by
 refine LJ (jV a n b r) λas p=>?_;refine LJ (jV a m i j) λB z=>?_;exact ne_dataH p z s1 A a.units ⟨_,σ,.bool _,a,.refl,h⟩
theorem Wx(n m:Nat)(e:toPy σ.H n x=Y d)(i:eQ (toPy σ.H m) xs=Y ds)(j:ace ds=W)(p:d.canLay0=W)(b:d.depth<=60)(h:Q (.bool (ds.any λy=>VV y d)) σ): bY c f (VK .In) x (.tup xs) l σ Q X:=λv w s a r z=>by
 refine LJ (jV a n e r) λas A=>?_;refine LJ (jV a (m+1) (x:=.tup xs) (d:=.tuple ds) (by show(eQ (toPy σ.H m) xs).map _=_;rw[i];rfl) z) λC B=>?_;exact SeqAt.in_tuple_reads B A j p (wD a b) ⟨_,σ,.bool _,a,.refl,h⟩
theorem WR(n m:Nat)(e:toPy σ.H n x=Y d)(i:eQ (toPy σ.H m) xs=Y ds)(j:ace ds=W)(p:d.canLay0=W)(b:d.depth<=60)(h:Q (.bool (!(ds.any λy=>VV y d))) σ): bY c f (VK .NotIn) x (.tup xs) l σ Q X:=λv w s a r z=>by
 refine LJ (jV a n e r) λas A=>?_;refine LJ (jV a (m+1) (x:=.tup xs) (d:=.tuple ds) (by show(eQ (toPy σ.H m) xs).map _=_;rw[i];rfl) z) λC B=>?_;exact SeqAt.notIn_tuple_reads B A j p (wD a b) ⟨_,σ,.bool _,a,.refl,h⟩
theorem Wv(n m:Nat)(e:toPy σ.H n x=Y d)(i:toPy σ.H m y=Y (.list ds))(j:ace ds=W)(p:d.canLay0=W)(b:d.depth<=60)(h:Q (.bool (ds.any λy=>VV y d)) σ): bY c f (VK .In) x y l σ Q X:=λv w s a r z=>by
 refine LJ (jV a n e r) λas A=>?_;refine LJ (jV a m i z) λC B=>?_;exact SeqAt.in_list_reads B A j p (wD a b) ⟨_,σ,.bool _,a,.refl,h⟩
theorem WO(n m:Nat)(e:toPy σ.H n x=Y d)(i:toPy σ.H m y=Y (.list ds))(j:ace ds=W)(p:d.canLay0=W)(b:d.depth<=60)(h:Q (.bool (!(ds.any λy=>VV y d))) σ): bY c f (VK .NotIn) x y l σ Q X:=λv w s a r z=>by
 refine LJ (jV a n e r) λas A=>?_;refine LJ (jV a m i z) λC B=>?_;exact SeqAt.notIn_list_reads B A j p (wD a b) ⟨_,σ,.bool _,a,.refl,h⟩
theorem Ww(h:Q (.bool (!(akb y x 0 y.length 1).isEmpty)) σ):bY c f (VK .In) (.str x) (.str y) l σ Q X:=λv w s a r b=>by
 refine r.jG λ_=>b.jG λ_=>?_;exact PySem.P.in_str ⟨_,σ,.bool _,a,.refl,h⟩
theorem WQ(h:Q (.bool (!(!(akb y x 0 y.length 1).isEmpty))) σ):bY c f (VK .NotIn) (.str x) (.str y) l σ Q X:=λv w s a r b=>by
 refine r.jG λ_=>b.jG λ_=>?_;exact PySem.P.notIn_str ⟨_,σ,.bool _,a,.refl,h⟩
theorem Wu(b:σ.H[k]?=Y (.bD fs))(h:Q (.bool (fs.lookup x).isSome) σ):bY c f (VK .In) (.str x) (.ref k) l σ Q X:=λv w s a r p=>by
 refine r.jG λ_=>p.jo λ_=>?_;refine zO (a.g.objs k _ b) λe es n g r j _=>?_;have hm:=Ia (P:=c.prog) g r j;have m:(σ.μ k == agK)=LB:=by
  rw[VF];intro q;have z:=(a.g.own (σ.μ k) (by rw[e];simp)).1;rw[q]at z;exact c.mods z
 refine wpAny_in_of (akg _ _ x _) m hm ?_;cases q:fs.lookup x with
 |none=>rw[yF _ _ _ (r.miss x q)];exact dF a (.bool _) (by rw[q]at h;exact h)
 |some y=>refine aM (r.find x q) λu i _=>?_;rw[yF _ _ _ i];exact dF a (.bool _) (by rw[q]at h;exact h)
end
noncomputable def mC:MO->Option (List O)
 | .lst xs=>Y xs
 |_=>LA
def listOf(H:List MO):O->Option (List O)
 | .lst xs=>Y xs
 | .ref k=>H[k]?.bind mC
 |_=>LA
theorem QZ{m:MO}(e:mC m=Y xs):m = .lst xs:=by
 cases m<;>first|exact congrArg MO.lst (LC e)|exact bR e
section
variable{c:GC}{f:Fc}{l:Lc}{σ ain:Sg}{s s':LG}{Q:QV}{X:QX}
theorem qv(h:R c f l σ s)(r:Rel (σ.V f.pv) s.heap v x)(e:listOf σ.H x=Y xs):∃a vs n,v = .ref a/\IsL s.heap a (apm vs) n/\bh (σ.V f.pv) s.heap vs xs:=by
 cases x<;>first|exact bR e|skip
 .rename_i k
  refine bg r.nR λr1 lt=>?_;have e:σ.H[k]?.bind mC=Y xs:=e;cases b:σ.H[k]? with
  |none=>rw[b]at e;exact bR e
  |some m =>
   rw[b]at e;have:=QZ e;subst this;refine dD (h.g.objs k _ b) λ_ vs n g r=>?_;exact⟨_,vs,n,r1,g,r⟩
 .rename_i ys
  rw[show ys=xs from LC e]at r;exact ph r.lst_inv λa vs n e _=>λg r=>⟨a,vs,n,e,g,r⟩
theorem Wc(z:listOf σ.H x=Y xs)(A:listOf σ.H y=Y ys)(B:xs.length+ys.length<=WE)(h:Q (.lst (xs++ys)) σ):bY c f (ajw .Add) x y l σ Q X:=λv w s j r C=>by
 refine ia (qv j r z) λa vs n i g rs=>?_;subst i;refine ia (qv j C A) λb us m i p rt=>?_;subst i;refine PySem.P.add_list g p ?_ (by rw[QD,QD,rs.length,rt.length];exact B);have e:vs.toArray++us.toArray=(vs++us).toArray:=by simp
 rw[e];exact Il j (rs.append rt) h
end
structure XP where
 (nm q:Str) (N:LP) (bs bm:List LD) (hdct:Bool) (sn:List Str) (sub:List LD) (ab:Bool) (col:Option Bool) (dd:Option LP) (k0 k1 k2 k3 k5:Option LD) (nid:String)
noncomputable abbrev XP.o(p:XP)(C:LP):Obj:=excClassObj p.nm p.q C p.N p.bs p.bm p.hdct p.sn p.sub p.ab p.col p.dd p.k0 p.k1 p.k2 p.k3 p.k5 p.nid
section
variable{xp:XP}{C:LP}{bmB:List LD}{B initId:String}
section
variable{M:al3}{A:adh}{E:LD->LG->Prop}{h:VG}{g:Array aml}{d:am9}{t:Nat}{os:abh}
theorem ah2(F:akT B xp.nid initId bmB)(f:xp.bm.contains (.type B)=W){P:Unit->LG->Prop}(b:h.get? C=Y (xp.o C))(hq:P () ⟨h,g,d,t,os⟩):wpAny M A (akE xp.nid ⟨.ref C::rest,[]⟩) P E ⟨h,g,d,t,os⟩:=by
 have a:(aaS C::xp.bm).contains (.type B)=W:=by rw[ajl,f,akx]
 have e:=F.noStar;unfold akE;rw[F.newKind,F.newSplit,F.newRow];dsimp only
 repeat (first|refine wpAny_loadPart_at b ?_|(refine wpAny_isSubtype_exc b ?_;rw[a])|refine wpAny_staticBase_exc b ?_|refine wpAny_madeBy_exc b ?_|simp only[bne_self_eq_false,Bool.false_eq_true,if_false]|wp_step)
 exact hq
end
variable{prog:ajI}{w:ac9}{A:adh}{E:LD->LG->Prop}{R:akG->LG->Prop}{h:VG}{g:Array aml}{d:am9}{t:Nat}{os:abh}
theorem ah5(F:akT B xp.nid initId bmB)(m:xp.bm.contains (.type B)=W)(l:xp.bm.contains (.type "AttributeError")=LB)(x:xp.bm.contains (.type "NameError")=LB)(b:h.get? C=Y (xp.o C))(hq:R (.ok (.ret (.ref (h.objs.size+1)))) ⟨(h.push {cls:=.type "tuple",data:=.seq rest.toArray}).push (gj C LA h.objs.size),g,d,t,os⟩)(hrest:rest.length<=WE): ajz (LS prog w) A (.builtin xp.nid ⟨.ref C::rest,[]⟩) R ⟨h,g,d,t,os⟩:=by
 have j:=F.ends;have f:(aaS C::xp.bm).contains (.type B)=W:=by rw[ajl,m,akx]
 have e:(aaS C::xp.bm).contains (.type "AttributeError")=LB:=by rw[ajl,l];rfl
 have i:(aaS C::xp.bm).contains (.type "NameError")=LB:=by rw[ajl,x];rfl
 refine PySem.codeAny_builtinAt F.entry ?_;unfold alf.«BaseException.__new__»;refine aoO ?_;show PySem.wpAt _ _ _ (stack >>= _) _ _ _;refine aoO (PySem.wpAt_stack λp a=>ank ?_)
 wp_walk
 refine ank ?_;rw[F.owner]
 repeat (first|with_reducible refine wpAny_madeHere_exc F.canon b ?_|with_reducible refine wpAny_loadPart_at b ?_|(with_reducible refine wpAny_isSubtype_exc b ?_;first|rw[f]|rw[e]|rw[i])|wp_step)
 show R _ _;rw[aky];exact hq
theorem ah6{K:aeb}(X:K.In h)(F:akT B xp.nid initId bmB)(y:xp.bm.contains (.type B)=W)(z:xp.bm.contains (.type "AttributeError")=LB)(D:xp.bm.contains (.type "NameError")=LB){rest:List LD}{m:LP}{P:Fin->LG->Prop}(f:h.get? C=Y (xp.o C))(hi:aeJ K (.ref C) "__init__" = Y (Y (.ref m)))(H:alo K (.ref m)=Y (.type "function"))(hq:wpAny (LS prog w) A (call (.ref m) (.ref (h.objs.size+1)::rest)) (λr s'=>r = .none/\P (.done (.ret (.ref (h.objs.size+1)))) s') E ⟨(h.push {cls:=.type "tuple",data:=.seq rest.toArray}).push (gj C LA h.objs.size),g,d,t,os⟩)(hrest:rest.length<=WE): wpAny (LS prog w) A (alf.«type.__call__» ⟨.ref C::rest,[]⟩) P E ⟨h,g,d,t,os⟩:=by
 repeat (first|with_reducible refine wpAny_loadPart_at f ?_|with_reducible refine wpAny_madeBy_exc f ?_|wp_step)
 refine codeAny_call_builtin_code (anv _ F.quiet) (ah2 F y f ?_);refine ah5 F y z D f ?_ hrest;show wpAny _ _ _ _ _ _;have k:∀b o,h.get? b=Y o->((h.push { cls:=.type "tuple",data:=.seq rest.toArray}).push (gj C LA h.objs.size)).get? b=Y o:=λb o e=>UB _ (UB _ e);have l:=k _ _ f;have a:=X.keeps k;have i:((h.push { cls:=.type "tuple",data:=.seq rest.toArray}).push (gj C LA h.objs.size)).get? (h.objs.size+1)=Y (gj C LA h.objs.size):=by heap_get
 have p:(aaS C::xp.bm).contains (.ref C)=W:=by simp
 unfold al9
 repeat (first|with_reducible refine wpAny_loadPart_at i ?_|(with_reducible refine wpAny_isSubtype_exc l ?_;rw[p])|wp_step)
 show wpAny _ _ (aoG (.ref C) _) _ _ _;refine(akS a hi).here ?_;refine aas (wpAny_bind ((bind_fn a _ H).here (wpAny_bind (VL hq (λr s' I=>?_) λ_ _ x=>x))));refine bg I λj G=>?_;subst j
 wp_walk
 exact G
theorem x_call{K:aeb}(X:K.In h)(F:akT B xp.nid initId bmB)(i:xp.bm.contains (.type B)=W)(f:xp.bm.contains (.type "AttributeError")=LB)(j:xp.bm.contains (.type "NameError")=LB){rest:List LD}{b:LP}(a:h.get? C=Y (xp.o C))(hi:aeJ K (.ref C) "__init__" = Y (Y (.ref b)))(l:alo K (.ref b)=Y (.type "function"))(hq:ajz (LS prog w) (A.under (.builtin "type.__call__" ⟨.ref C::rest,[]⟩)) (.call (.ref b) ⟨.ref (h.objs.size+1)::rest,[]⟩) (InitBack (h.objs.size+1) R) ⟨(h.push {cls:=.type "tuple",data:=.seq rest.toArray}).push (gj C LA h.objs.size),g,d,t,os⟩)(hrest:rest.length<=WE): ajz (LS prog w) A (.call (.ref C) ⟨rest,[]⟩) R ⟨h,g,d,t,os⟩:=by
 have f1:=tc_lookup;have f2:=tc_bind (.ref C);have m:(⟨h,g,d,t,os⟩: LG).TypeIs (.ref C) "type":=⟨_,a,rfl⟩;refine codeAny_of_tree ?_;show wpAny _ _ (callAny (.ref C) _) _ _ _
 repeat (any_goals (first|assumption|with_reducible refine wpAny_loadPart_at a ?_|wp_step))
 refine⟨rfl,?_⟩;refine codeAny_call_builtin_at (anv _ (by decide +kernel)) entry_typeCall (wpAny_check_type_call_sub a (ah6 (hrest:=hrest) X F i f j a hi l (al7 (aj6 hq λr s' z=>?_))));rcases r with e|(v|_|_|_)<;>first|exact z|exact z.elim|skip
end
structure tC (c:GC) (C fI:LP):Prop where
 at_:∃xp:XP,c.base.get? C=Y (xp.o C)/\xp.nid = "Exception.__new__" /\
  xp.bm.contains (.type "Exception")=W/\xp.bm.contains (.type "BaseException")=W/\xp.bm.contains (.type "AttributeError")=LB/\xp.bm.contains (.type "NameError")=LB
 init:aeJ c.K (.ref C) "__init__" = Y (Y (.ref fI))
 fn:alo c.K (.ref fI)=Y (.type "function")
section
variable{c:GC}{n:Nat}{pv:LP->Prop}{fr:List Env}{A A':adh}{f:Fc}{l:Lc}{σ ain:Sg}{s s':LG}{Q:QV}{X:QX}
theorem call_exc{C M:LP}{xs:List O}(D:tC c C M)(hz:xs.length<=100)(h:∀Z:Sg,Z.H=σ.H++[.exc C []]->j0 c (n+1) (.ref M) (.ref σ.H.length::xs) Z (λr B=>r = .none/\Q (.ref σ.H.length) B) X):j0 c (n+2) (.ref C) xs σ Q X:=by
 intro pv fr A s i G r;have X0:=ik G;have sl:WE=16777216:=by decide
 refine CT D.at_ λxp hC bn b1 b2 b3 b4=>?_;have E:=G.stays _ _ hC;obtain⟨a,g,d,t,os⟩:=s;generalize ho:({ cls:=.type "tuple",data:=.seq i.toArray}:Obj)=j;have k:a.StaysIn ((a.push j).push (gj C none a.objs.size)):=λb o e=>UB _ (UB _ e);have e1:((a.push j).push (gj C none a.objs.size)).get? (a.objs.size+1)=some (gj C none a.objs.size):=by heap_get
 have N:∀x,(none:Option LP)=some x->a.objs.size<=x/\∃o,((a.push j).push (gj C none a.objs.size)).get? x=some o:=λx e=>by exact bR e
 have I:(σ.add (a.objs.size+1) (.exc C []) none).μ σ.H.length=a.objs.size+1:=VD rfl;have ok:Ok c.w.params (σ.add (a.objs.size+1) (.exc C []) none) ((σ.add (a.objs.size+1) (.exc C []) none).V pv) ((a.push j).push (gj C none a.objs.size)) σ.H.length (.exc C []) :=
  ⟨by rw[I];exact VD rfl,a.objs.size,none,by rw[I];exact e1,rfl⟩
 have G1:=Rg.add G (h':=(a.push j).push (gj C none a.objs.size)) k (ajq _) ⟨_,e1⟩ N ok;have S1:aJ (λ_=>False) pv σ a (σ.add (a.objs.size+1) (.exc C []) none) ((a.push j).push (gj C none a.objs.size)):=aJ.add G k (ajq _) λx e=>(N x e).1;have go:Go (σ.V pv) a ((σ.add (a.objs.size+1) (.exc C []) none).V pv) ((a.push j).push (gj C none a.objs.size)):=S1.go λ_ z=>z.elim;have hde:=G.depth;have hun:=G.units;have d1:=TK (A:=A) C i [];have u1:=TL (A:=A) C i [];have G2:=G1.xh (A':=A.under (.builtin "type.__call__" ⟨.ref C::i,[]⟩)) (n':=n+1) (xr C i []) G.hand (by lia) (by lia);refine x_call X0 (bn▸ama) b1 b3 b4 E D.init D.fn ?_ (by rw[r.length,sl];lia);rw[ho];refine aj6 (h _ rfl pv fr _ _ (.ref (a.objs.size+1)::i) G2 (.cons Rel.added (r.go go))) λL s' p=>?_;rcases L with e|(_|_|_|v)
 .refine vg p λx ain T y S q=>?_;exact⟨x,ain,T,y.xh (xr C i []).symm G.hand G.depth G.units,S1.trans S,q⟩
 .exact p.elim
 .exact p.elim
 .exact p.elim
 .refine nM p λx ain rv y S m q=>?_;subst m;cases rv.none_inv;refine⟨rfl,.ref σ.H.length,ain,?_,y.xh (xr C i []).symm G.hand G.depth G.units,S1.trans S,q⟩;have lt:σ.H.length < (σ.add (a.objs.size+1) (.exc C []) none).H.length:=by show _ < (σ.H++[_]).length;simp
  have e:=(S.mu σ.H.length lt).trans I;have z:Rel (ain.V pv) s'.heap (.ref ((ain.V pv).μ σ.H.length)) (.ref σ.H.length):=.ref (LR lt S.n)
  rwa [show(ain.V pv).μ σ.H.length=a.objs.size+1 from e]at z
end
noncomputable def Ah:LD->String | .type a=>a|_=>""
noncomputable def P4:LD->Bool | .ref _=>W|_=>LB
def vc:List LD->Bool
 | []=>LB
 |v::r=>P4 v&&vc r||Ah v == "Exception" && r.map Ah == ["BaseException", "object"]
theorem Ju(h:Ah v=n)(k:n ≠ ""):v = .type n:=by
 subst h;revert k;cases v<;>intro k<;>first|exact rfl|exact absurd rfl k
theorem NM{P:List LD->Prop}(j:P [.type "Exception",.type "BaseException",.type "object"])(h1:∀c r,vc r=W->P r->P (.ref c::r)):∀{l:List LD},vc l=W->P l:=by
 intro l;induction l with
 |nil =>
  exact@λh=>nomatch h
 |cons v r p =>
  exact@λh=>by
   have h:(P4 v&&vc r||Ah v == "Exception" && r.map Ah == ["BaseException", "object"])=W:=h;rw[alq,LM,LM,ajR,ajR]at h;rcases h with ⟨e,f⟩|⟨e,f⟩
   .have e:∃c,v = .ref c:=by revert e;cases v<;>intro e<;>first|exact⟨_,rfl⟩|exact nomatch e
    refine LJ e λc i=>?_;subst i;exact h1 c r f (p f)
   .rw[Ju e (by decide)];induction r using cL with
    |nil=>cases f
    |cons a r =>
    induction r using cL with
    |nil=>exact nomatch (ajt f).2
    |cons b r =>
    induction r using cL with
    |cons d r=>exact nomatch (ajt (ajt f).2).2
    |nil =>
     refine bg (ajt f) λm hb=>?_;rw[Ju m (by decide),Ju (ajt hb).1 (by decide)];exact j
theorem afS(a:LD)(h:vc l=W):refuseLoop a "__setattr__" l=pure () :=
 NM (P:=λl=>refuseLoop a "__setattr__" l=pure ()) (PySem.F.store_Exception.passes a) (λc r h i=>by
  rw[refuseLoop_ref];exact i) h
theorem aa9(h:vc l=W):l.contains (.type "object")=W :=NM (P:=λl=>l.contains (.type "object")=W) rfl (λc r _ i=>by rw[ajl,i,akx]) h
def vN(K:aeb)(C:LP):Bool:=(clsIn K C).any λa=>vc a.mro
section
variable{prog:ajI}{w:ac9}{A:adh}{E:LD->LG->Prop}{s:LG}{K:aeb}{x C dx:LP}{ox:Obj}{od:Option Obj}{es:List QA}{n:Nat}{name:Str}{v:LD}{R:akG->LG->Prop}
theorem RL(X:K.In s.heap)(I:InstAt s.heap x ox C od)(H:vN K C=W)(L:ak1 K C name=Y LA)
  (h:∀b,wpAny (LS prog w) A.in1 (aoi (.ref x) (.ref C) (.str name tk) name v b)
   (λp s'=>match p with | .done f=>R (.ok f) s' | .again c'=>c'.quiet=W/\ajz (LS prog w) A c' R s') (λe s'=>R (.error e) s') s) :
  ajz (LS prog w) A (.call (.builtin "object.__setattr__") ⟨[.ref x,.str name tk,v],[]⟩) R s:=by
 have j:=PySem.F.store_object;refine aM (aon H) λm z l=>?_;have M:m.mro.isEmpty=LB:=by cases q:m.mro with|nil=>rw[q]at l;cases l|cons _ _=>rfl
 have sub:ala (LS prog w) s.heap (al9 (.ref x) (.type "object")) W:=I.type.andThen (looks_mroIn X (by unfold mroIn;rw[z,ajy,QE (by rw[M];decide),aa9 l]));refine alr j.slot.plain j.entry (@check_slot (LS prog w) _ _ s "object.__setattr__" "object" "__setattr__" (.ref x) [.str name tk,v] [] _ j.kind j.split sub (j.args (.ref x) (.str name tk) v) ?_);refine aM (Option.bind_eq_some_iff.mp L) λi G B=>?_;have hm:ala (LS prog w) s.heap (mroOf (.ref C)) m.mro:=(amI X z).andThen .now;have D:ala (LS prog w) s.heap (aoP i) LA:=by
  induction i using cO with
  |none=>cases B;exact .now
  |some a =>
   refine aM (akt.mp B) λb hb y=>?_;refine(looks_takesIn X hb).andThen ?_;cases b
   .exact .now
   .exact fZ y
 rw[osa_eq,refuse_eq];refine wpAny_bind (wpAny_bind (I.type.here (wpAny_bind (hm.here ?_))));rw[afS _ l];refine wpAny_pure (wpAny_bind (I.type.here (wpAny_bind ((akS X G).here (wpAny_bind (D.here ?_))))));exact h _
theorem aeD(X:K.In s.heap)(f:s.heap.get? x=Y (gj C (Y dx) t))(D:s.heap.get? dx=Y (aaR es n))(m:vN K C=W)(p:ak1 K C name=Y LA)(j:ajM K C=W)(l:(alb name es).isSome=W)(y:es.length<=900)(h:R (.ok (.ret .none)) {s with heap:=s.heap.update dx (ajP name (aaV w.params name) (.str name s.toks) v),toks:=s.toks+1}): ajz (LS prog w) A (.call (.builtin "object.__setattr__") ⟨[.ref x,.str name tk,v],[]⟩) R s:=by
 refine RL X (od:=Y (aaR es n)) ⟨f,rfl,rfl,D⟩ m p λb=>?_;refine aM (aon j) λz i e=>?_;refine wpAny_bind (wpAny_pure (wpAny_bind (wpAny_bind (alD f (wpAny_bind ((amI X i).here ?_))))));rw[e];exact wpAny_pure (a:=Y dx) (I8 D l y h)
theorem aeC(X:K.In s.heap)(e:s.heap.get? x=Y (gj C LA t))(p:vN K C=W)(y:ak1 K C name=Y LA)(m:ajM K C=W)(h:R (.ok (.ret .none)) {s with heap:=((s.heap.push aeP).update x λo=>{o with dict:=Y s.heap.objs.size}).update s.heap.objs.size (ajP name (aaV w.params name) (.str name s.toks) v),toks:=s.toks+1}): ajz (LS prog w) A (.call (.builtin "object.__setattr__") ⟨[.ref x,.str name tk,v],[]⟩) R s:=by
 refine RL X (od:=LA) ⟨e,rfl,rfl,trivial⟩ p y λb=>?_;refine aM (aon m) λz l i=>?_;have f:(s.heap.push aeP).get? x=Y (gj C LA t):=UB _ e;have j:x≠s.heap.objs.size:=WA (VQ e);have D:((s.heap.push aeP).update x λo=>{o with dict:=Y s.heap.objs.size}).get? s.heap.objs.size=Y (aaR [] 0) :=
  (aka _ _ _ _ j.symm).trans (an1 rfl rfl)
 refine wpAny_bind (wpAny_pure (wpAny_bind (wpAny_bind (alD e (wpAny_bind ((amI X l).here ?_))))));rw[i];refine wpAny_bind (wpAny_alloc ?_);refine wpAny_bind (wpAny_update (s:={s with heap:=s.heap.push aeP}) f ?_);refine wpAny_pure (a:=Y s.heap.objs.size) ?_;exact I8 (s:={s with heap:=(s.heap.push aeP).update x λo=>{o with dict:=Y s.heap.objs.size} }) D rfl (by simp) h
end
noncomputable def Sg.putD(g:Sg)(k:Nat)(m:MO)(d:LP):Sg:=⟨g.H.set k m,g.μ,λb=>if b=d then Y (k,W) else g.σ b⟩
section
variable{c:GC}{n:Nat}{P pv:LP->Prop}{fr:List Env}{A:adh}{f:Fc}{l:Lc}{σ ain:Sg}{s s':LG}{h':VG}
theorem Go.putD(G:Rg c n pv fr A σ s)(h:σ.σ a=Y (k,b))(i:s.heap.objs.size<=d)(j:∀b o,b≠a->s.heap.get? b=Y o->h'.get? b=Y o): Go (σ.V pv) s.heap ((σ.putD k m d).V pv) h':=
 ⟨by show _<=(σ.H.set k m).length;rw[ajW];exact LL _,λ_ _=>rfl,λx o e t q=>t (q.elim (λz=>.inl λw=>z (by
   show(if x=d then _ else σ.σ x)=LA;rw[QE (WA (LR (VQ e) i))];exact w)) .inr),λx o e t _=>⟨o,j x o (λz=>t (.inl (by rw[z,h];simp))) e,.rfl⟩⟩
theorem aJ.putD(h:σ.σ a=Y (k,b))(i:s.heap.objs.size<=d)(j:∀b o,b≠a->s.heap.get? b=Y o->h'.get? b=Y o):aJ P pv σ s.heap (σ.putD k m d) h' :=
 ⟨by show _<=(σ.H.set k m).length;rw[ajW];exact LL _,λ_ _=>rfl,λx o e _ q=>⟨by
   show(if x=d then _ else σ.σ x)=LA;rw[QE (WA (LR (VQ e) i))];exact q,.same (j x o (λz=>by rw[z,h]at q;exact fZ q) e)⟩⟩
theorem Rg.putD(G:Rg c n pv fr A σ s)(M:σ.H[k]?=Y m₀)(B:σ.σ a=Y (k,b))(D:s.heap.objs.size<=d)(h:∀b o,b≠a->s.heap.get? b=Y o->h'.get? b=Y o)
  (X:∃o,h'.get? a=Y o) (Z:∃o,h'.get? d=Y o) (ok:Ok c.w.params (σ.putD k m d) ((σ.putD k m d).V pv) h' k m):Rg c n pv fr A (σ.putD k m d) {s with heap:=h'} where
 stays:=λx o e=>h x o (λz=>by have:=(G.own a (by rw[B];simp)).1;rw[z,this]at e;exact bR e) (G.stays x o e)
 frames:=frames_at (λenv he L S o e T=>⟨o,h L o (λz=>by have:=(G.dg L (G.fJ env he L S)).1;rw[z,B]at this;exact fZ this) e,T⟩) G.frames
 stack:=G.stack
 hand:=G.hand
 depth:=G.depth
 units:=G.units
 fJ:=G.fJ
 dg:=λx q=>by
  refine hZ (G.dg x q) λu y o e w=>?_;exact⟨by show(if x=d then _ else σ.σ x)=LA;rw[QE (WA (LR (VQ e) D))];exact u,y,o,h x o (λz=>by rw[z,B]at u;exact fZ u) e,w⟩
 objs:=λi m' e=>by
  have e:(σ.H.set k m)[i]?=Y m':=e;have lt:k < σ.H.length:=by
   rcases anp k σ.H.length with z|z
   .exact z
   .rw[VO z]at M;exact bR M
  by_cases hi:k=i
  .subst hi;rw[akq lt]at e;have zq:=LC e;clear e;subst zq;exact ok
  .rw[WC hi]at e;have x:=G.objs i m' e;have go:=Go.putD (m:=m) G B D h;have j:∀y q,σ.σ y=Y (i,q)->y≠a:=λy q z w=>by rw[w,B]at z;cases z;exact hi rfl
   have p:∀y q,σ.σ y=Y (i,q)->(σ.putD k m d).σ y=Y (i,q):=λy q z=>by
    refine nJ (G.own y (by rw[z];simp)) λ_ o E=>?_;show(if y=d then _ else σ.σ y)=_;rw[QE (WA (LR (VQ E) D))];exact z
   cases m' with
   |lst xs=>refine dD x λe vs n g r=>?_;exact⟨p _ _ e,vs,n,h _ _ (j _ _ e) g,r.go go⟩
   |bD fs=>refine w4 x λe es n g r q=>?_;exact⟨p _ _ e,es,n,h _ _ (j _ _ e) g,r.go go,q⟩
   |inst C fs=>refine nL x λe d es n e2 g Q r=>?_;exact⟨p _ _ e,d,es,n,p _ _ e2,h _ _ (j _ _ e) g,h _ _ (j _ _ e2) Q,r.go go⟩
   |exc C fs=>refine dD x λe t N g r=>?_;exact⟨p _ _ e,t,N,h _ _ (j _ _ e) g,r.move go (λb q z=>p b q z) λb q o z w _=>h _ _ (j b q z) w⟩
   |dead=>trivial
 own:=λx e=>by
  have e:(if x=d then Y (k,W) else σ.σ x)≠LA:=e;by_cases h1:x=d
  .subst h1;exact⟨G.mS D,Z⟩
  .rw[QE h1]at e;refine nJ (G.own x e) λy o E=>?_;by_cases I:x=a
   .subst I;exact⟨y,X⟩
   .exact⟨y,o,h x o I E⟩
 gens:=G.gens
 os:=G.os
theorem WU{Q:Sg->Prop}(L:σ.H[k]?=Y (.exc C fs))(hs:aeJ c.K (.ref C) "__setattr__" = Y (Y (.builtin "object.__setattr__")))(Z:vN c.K C=W)(N:ak1 c.K C name=Y LA)(T:ajM c.K C=W)(hz:fs.length<=900)(h:∀τ:Sg,τ.H=σ.H.set k (.exc C (cy name y fs))->Q τ):Av c f (λv w=>anF v name w) (.ref k) y l σ Q X:=λv w s i r ry=>by
 refine bg r.nR λev lt=>?_;subst ev;refine dD (i.g.objs k _ L) λe t dd g D=>?_;have X0:=ik i.g;induction dd using cO with
 |some d =>
  refine dD D λe2 es n E r=>?_;refine ao5 X0 (ox:=gj C (Y d) t) (od:=Y (aaR es n)) ⟨g,rfl,rfl,E⟩ hs (aeD (s:={s with toks:=s.toks+1}) X0 g E Z N T (r.Oi name) (by rw[r.length];exact hz) ?_);obtain⟨a,b⟩:=RX (m:=.exc C (cy name y fs)) (g:=ajP name (aaV c.w.params name) (.str name (s.toks+1)) w) i L e2 E (alm _ _ _ _ _ _) (λh' D' sb go =>
   ⟨e,t,Y d,(sb.2 _ λq=>by rw[show σ.μ k=d from q,e2]at e;cases e).trans g,e2,_,_,D',cD.put (ry.go go) (r.go go)⟩) (s.toks+2)
  exact⟨_,a,b,h _ rfl⟩
 |none =>
  have D:fs=[]:=D;subst D;refine ao5 X0 (ox:=gj C LA t) (od:=LA) ⟨g,rfl,rfl,trivial⟩ hs (aeC (s:={s with toks:=s.toks+1}) X0 g Z N T ?_);have M:σ.μ k≠s.heap.objs.size:=WA (VQ g);generalize hG:ajP name (aaV c.w.params name) (.str name (s.toks+1)) w=j;have p:j (aaR [] 0)=aaR (putL name (aaV c.w.params name) (.str name (s.toks+1)) w []) (putN name [] 0):=by rw[←hG];exact alm _ _ _ _ _ _
  have S:(((s.heap.push aeP).update (σ.μ k) λo=>{o with dict:=Y s.heap.objs.size}).update s.heap.objs.size j).get? (σ.μ k)=Y (gj C (Y s.heap.objs.size) t):=by
   refine(aka _ _ _ _ M).trans ?_;exact aji _ (UB _ g) rfl
  have I:((s.heap.push aeP).update (σ.μ k) λo=>{o with dict:=Y s.heap.objs.size}).get? s.heap.objs.size=Y (aaR [] 0) :=
   (aka _ _ _ _ (aaU M)).trans (an1 rfl rfl)
  have gd:(((s.heap.push aeP).update (σ.μ k) λo=>{o with dict:=Y s.heap.objs.size}).update s.heap.objs.size j).get? s.heap.objs.size=Y (aaR (putL name (aaV c.w.params name) (.str name (s.toks+1)) w []) (putN name [] 0)):=by
   rw[←p];exact aji _ I (by rw[p];rfl)
  have B:∀b o,b≠σ.μ k->s.heap.get? b=Y o->(((s.heap.push aeP).update (σ.μ k) λo=>{o with dict:=Y s.heap.objs.size}).update s.heap.objs.size j).get? b=Y o:=λb o nb x =>
   (aka _ _ _ _ (WA (VQ x))).trans ((aka _ _ _ _ nb).trans (UB _ x))
  have go:=Go.putD (m:=.exc C (cy name y [])) i.g e (LL _) B;have ok:Ok c.w.params (σ.putD k (.exc C (cy name y [])) s.heap.objs.size) ((σ.putD k (.exc C (cy name y [])) s.heap.objs.size).V f.pv) (((s.heap.push aeP).update (σ.μ k) λo=>{o with dict:=Y s.heap.objs.size}).update s.heap.objs.size j) k (.exc C (cy name y [])):=by
   refine⟨?_,t,Y s.heap.objs.size,S,?_,_,_,gd,cD.put (ry.go go) .nil⟩
   .show(if σ.μ k=s.heap.objs.size then _ else σ.σ (σ.μ k))=_;rw[QE M];exact e
   .exact VD rfl
  have G:=i.g.putD L e (LL _) B ⟨_,S⟩ ⟨_,gd⟩ ok;refine⟨σ.putD k (.exc C (cy name y [])) s.heap.objs.size,(i.move G go λb hb o x=>⟨o,B b o (λz=>by
   have:=(i.g.dg b (i.own b hb)).1;rw[z,e]at this;exact fZ this) x,rfl⟩).tok _,aJ.putD e (LL _) B,h _ rfl⟩
end
section
variable{xp:XP}{C:LP}{bmB:List LD}{B newId initId:String}
section
variable{M:al3}{A:adh}{E:LD->LG->Prop}{h:VG}{g:Array aml}{d:am9}{t:Nat}{os:abh}
theorem ah1(F:akT B newId initId bmB)(m:xp.bm.contains (.type B)=W){P:Unit->LG->Prop}(l:h.get? C=Y (xp.o C))(he:h.get? e=Y oe)(f:oe.cls = .ref C)(hq:P () ⟨h,g,d,t,os⟩): wpAny M A (akE initId ⟨.ref e::rest,[]⟩) P E ⟨h,g,d,t,os⟩:=by
 have j:(aaS C::xp.bm).contains (.type B)=W:=by rw[ajl,m,akx]
 have i:=F.noStar;unfold akE;rw[F.initKind,F.initSplit,F.initRow];dsimp only
 repeat (first|(with_reducible refine wpAny_loadPart_at he ?_;rw[f])|with_reducible refine wpAny_loadPart_at l ?_|(with_reducible refine wpAny_isSubtype_exc l ?_;rw[j])|wp_step)
 refine wpAny_onRaise ?_;rw[show ∀(a b:String) (n:Nat),Bind.check ⟨.positional, "*",B,.self,[⟨"args",.varPos,LB⟩]⟩ a b n (List.map (λx=>x.fst) ({ pos:=aaS e::rest}:Args).kw)=pure () from
  λa b n=>check_star_args _ _ _ _ _ _]
 exact wpAny_pure hq
end
variable{prog:ajI}{w:ac9}{A:adh}{R:akG->LG->Prop}{h:VG}{g:Array aml}{d:am9}{t:Nat}{os:abh}
theorem ah3(F:akT B newId initId bmB)(a:xp.bm.contains (.type B)=W)(hrest:rest.length<=WE)(b:h.get? C=Y (xp.o C))(he:h.get? e=Y (gj C d0 t0))(hq:R (.ok (.ret .none)) ⟨(h.push {cls:=.type "tuple",data:=.seq rest.toArray}).update e (agT (·.setIfInBounds 0 (.ref h.objs.size))),g,d,t,os⟩): ajz (LS prog w) A (.call (.builtin initId) ⟨.ref e::rest,[]⟩) R ⟨h,g,d,t,os⟩:=by
 refine alr F.init.plain F.initEntry (ah1 F a b he rfl ?_);have f:(h.push { cls:=.type "tuple",data:=.seq rest.toArray}).get? e=Y (gj C d0 t0):=UB _ he
 wp_walk
 exact hq
end
section
variable{c:GC}{n:Nat}{f:Fc}{l:Lc}{σ ain:Sg}{s s':LG}{Q:QV}{X:QX}
theorem V2{Q:LD->List O->Prop}(i:akA c.K (.ref C) "__getattribute__" = Y (Y (.builtin "type.__getattribute__")))(j:amc c.K C mc=W)(e:ake c.K (.ref C) mc name=Y (.val (.ref a)))(h:Q (.ref a) []):tN c f name (.gl C) l σ Q:=λ{v s P E pl} b r m=>by
 refine r.yJ ?_;exact method_cls (ik b.g) i (cls_value (ik b.g) j e rfl (m _ _ _ (s.toks+1) h .nil))
theorem V5{T id:String}{name:Str}{Q:LD->List O->Prop}(x:amZ (.type T)=pure (.type "type"))(p:Manifest.isStub T=LB)(e:ake c.K (.type T) (.type "type") name=Y (.val (.builtin id)))(m:handedIn (.builtin id)=W)(h:Q (.builtin id) []):tN c f name (.ty T) l σ Q:=λ{v s P E pl} j r y=>by
 refine r.Uc ?_;have X:=ik j.g;have i:ala (LS c.prog c.w) s.heap (aou (.type T)) LA:=apf (by unfold aou;dsimp only;rw[p];rfl);have a:ala (LS c.prog c.w) s.heap (amZ (.type T)) (.type "type"):=apf x;have b:aeJ c.K (.type "type") "__getattribute__" = Y (Y (.builtin "type.__getattribute__")):=type_tga;unfold ao8 specialOf;refine wpAny_bind (wpAny_bind (a.here ((akS X b).here ?_)));dsimp only;rw[VD canon_tga];refine wpAny_bind (VL (Q:=λv=>P (v,[])) (E:=E) ?_ (λ_ _ z=>wpAny_pure z) λ_ _ z=>z);refine cls_open X i a b (looks_hook X (r:=LA) (by rfl)) (by show subIn c.K _ _=_;rfl) e
  (wpAny_pure (by show wpAny _ _ (handedOut (.builtin id)) _ _ _;rw[handedOut_of m];exact wpAny_pure (y _ _ _ (s.toks+1) h .nil)))
theorem U0(L:tC c C fI)(p:σ.H[k]?=Y (.exc C fs))(hz:xs.length<=100)(h:∀B:Sg,B.H=σ.H.set k (.exc C fs)->Q .none B):eZ c f (.builtin "Exception.__init__") (.ref k::xs) l σ Q X:=λvs s j r=>by
 refine vf r.cons_inv λv0 us M a r2=>?_;refine bg a.nR λN lt=>?_;subst M N;clear r
 rename bh _ _ _ _=>r
 refine dD (j.g.objs k _ p) λe t dd g D=>?_;have sl:WE=16777216:=by decide
 refine CT L.at_ λxp Z bn b1 b2 b3 b4=>?_;have i:=j.g.stays _ _ Z;obtain⟨b,gg,d,tt,os⟩:=s;refine al7 (ah3 ama b1 (by rw[r.length,sl];lia) i g ?_);have xs':σ.μ k≠b.objs.size:=WA (VQ g);have x:=j.push { cls:=.type "tuple",data:=.seq us.toArray};have S1:aJ f.P f.pv σ b σ (b.push { cls:=.type "tuple",data:=.seq us.toArray}):=aJ.push _ _;refine dD (x.g.objs k _ p) λe' t' dd' S w=>?_;have sb:=alA (b.push { cls:=.type "tuple",data:=.seq us.toArray}) (σ.μ k) (agT (·.setIfInBounds 0 (.ref b.objs.size)));have z:((b.push { cls:=.type "tuple",data:=.seq us.toArray}).update (σ.μ k) (agT (·.setIfInBounds 0 (.ref b.objs.size)))).get? (σ.μ k)=Y (gj C dd' b.objs.size):=aji _ S rfl;have A:σ.σ (σ.μ k)≠LA:=by rw[e];simp
 have go:Go (σ.V f.pv) (b.push { cls:=.type "tuple",data:=.seq us.toArray}) (σ.V f.pv) ((b.push { cls:=.type "tuple",data:=.seq us.toArray}).update (σ.μ k) (agT (·.setIfInBounds 0 (.ref b.objs.size)))):=Go.sameBut sb (.inl A);have E:xG σ (σ.V f.pv) ((b.push { cls:=.type "tuple",data:=.seq us.toArray}).update (σ.μ k) (agT (·.setIfInBounds 0 (.ref b.objs.size)))) k fs dd':=by
  induction dd' using cO with
  |none=>exact w
  |some I=>refine dD w λe2 es n T r=>?_;exact⟨e2,es,n,(sb.2 I λy=>by rw[←y,e2]at e;cases e).trans T,r.go go⟩
 have G:=x.put (m:=.exc C fs) p sb e ⟨e,b.objs.size,dd',z,E⟩ ⟨_,z⟩;exact⟨.none,σ.put k (.exc C fs),.none,G,S1.trans (aJ.put sb A),h _ rfl⟩
end
section
variable{M:al3}{A:adh}{E:LD->LG->Prop}{env:Env}
def Xk(h:VG)(C:LP):Prop:=∃a:XP,h.get? C=Y (a.o C)/\a.bm.contains (.type "BaseException")=W
theorem x_raise{P:am7->LG->Prop}(y:A.handled=LA)(h:wpAny M A x (λv a=>∃C e t m,v = .ref e/\Xk a.heap C/\a.heap.get? e=Y (gj C m t)/\E (.ref e) a) E s): wpAny M A (ao9 env (Y x) LA) P E s:=by
 unfold ao9;refine wpAny_bind (VL h (λv a j=>?_) λ_ _ x=>x);obtain⟨C,e,t,m,i,f,he,w⟩:=j;subst i;refine aM f λz p b=>?_;have l:(aaS C::z.bm).contains (.type "BaseException")=W:=by rw[ajl,b,akx]
 obtain⟨B,g,d,D,os⟩:=a
 repeat (first|with_reducible refine wpAny_loadPart_at he ?_|with_reducible refine wpAny_loadPart_at p ?_|(with_reducible refine wpAny_isSubtype_exc p ?_;rw[l])|wp_step)
 exact wpAny_raiseNew_none y w
variable{c:GC}{n:Nat}{f:Fc}{l:Lc}{σ:Sg}{ain:Sg}{s:LG}{s':LG}{Q:QF}{X:Lc->QX}
theorem Xu(hq:c.quiet=W)(h:bF c f e l σ (λx b=>∃k C fs w,x = .ref k/\b.H[k]?=Y (.exc C fs)/\tC c C w/\fs≠[]/\∀z:Sg,z.H=b.H.set k .dead->X l ⟨C,fs⟩ z) (X l)):d6 c f (ak4 (.Raise (Y e) LA pos) f.env) l σ Q X:=λs y=>by
 have Z:ak4 (.Raise (Y e) LA pos) f.env=(do standAt pos;ao9 f.env (Y (do let v ←eval e f.env;standAt pos;pure v)) LA):=rfl;rw[Z];refine wpAny_bind (ajr (x_raise (y.g.hand hq)
  (wpAny_bind (dc (h s y) (λv B x b r a i q=>wpAny_bind (ajr (wpAny_pure ?_))) λ_ _ p=>p.up))))
 obtain⟨k,C,fs,w,L,T,G,nf,q⟩:=(q);subst L;refine bg r.nR λI lt=>?_;subst I;refine dD (a.g.objs k _ T) λe1 t j g D=>?_;refine CT G.at_ λxp S bn b1 b2 b3 b4=>?_;refine⟨C,_,t,j,rfl,⟨_,a.g.stays _ _ S,b2⟩,g,⟨C,fs⟩,l,b.free k,?_,a.free k,i.trans (aJ.free k),q _ rfl⟩;induction j using cO with
 |none=>exact(nf D).elim
 |some d =>
  refine dD D λe2 es m N r=>?_;have n1:=yG a.g e1;have n2:=yG a.g e2;exact⟨_,d,_,_,es,m,rfl,g,rfl,rfl,rfl,(a.g.own (b.μ k) (by rw[e1];simp)).1,N,n1,n2,r.go Go.free,.inl rfl⟩
end
section
variable{M:al3}{A:adh}{E:LD->LG->Prop}{h:VG}{g:Array aml}{d:am9}{t:Nat}{os:abh}
variable{xp xp2:XP}{C D:LP}
theorem ah4{P:Bool->LG->Prop}(l:h.get? C=Y (xp.o C))(j:h.get? D=Y (xp2.o D))(he:h.get? e=Y oe)(b:oe.cls = .ref C)(a:xp2.bm.contains (.type "BaseException")=W)(hq:P ((aaS C::xp.bm).contains (.ref D)) ⟨h,g,d,t,os⟩):wpAny M A (excMatches (.ref e) (.ref D)) P E ⟨h,g,d,t,os⟩:=by
 have i:(aaS D::xp2.bm).contains (.type "BaseException")=W:=by rw[ajl,a,akx]
 have f:=tc_notTuple;unfold excMatches;cases hb:(aaS C::xp.bm).contains (.ref D)<;>rw[hb]at hq <;>
  (repeat (first|(with_reducible refine wpAny_loadPart_at he ?_;rw[b])|with_reducible refine wpAny_loadPart_at j ?_|(with_reducible refine wpAny_isSubtype_exc j ?_;rw[i])|(with_reducible refine wpAny_isSubtype_exc l ?_;rw[hb])|wp_step)) <;>
  exact hq
end
noncomputable def GC.loud(c:GC):GC:={c with quiet:=LB}
noncomputable def Fc.mark(f:Fc)(e:LD):Fc:={f with A:=f.A.mark (Y e)}
theorem R.mark(a:R c f l σ s)(e:LD):R c.loud (f.mark e) l σ s :=⟨⟨a.g.stays,a.g.frames,a.g.stack,(λq=>ald q),a.g.depth,a.g.units,a.g.fJ,a.g.dg,a.g.objs,a.g.own,a.g.gens,a.g.os⟩,a.ns,a.vars,a.iS,a.own,a.nd,a.kind,a.glob,a.lW,a.top⟩
theorem R.unmark(a:R c f l σ s)(h:R c.loud (f.mark e) l' ain s'):R c f l' ain s' :=⟨⟨h.g.stays,h.g.frames,a.g.stack,a.g.hand,a.g.depth,a.g.units,h.g.fJ,h.g.dg,h.g.objs,h.g.own,h.g.gens,h.g.os⟩,h.ns,h.vars,h.iS,h.own,h.nd,h.kind,h.glob,h.lW,h.top⟩
section
variable{c:GC}{f:Fc}{l:Lc}{σ ain:Sg}{s s':LG}{Q:QV}{X:QX}
theorem WN(b:σ.H[k]?=Y (.bD fs))(h:Q (.bool (!(fs.lookup x).isSome)) σ):bY c f (VK .NotIn) (.str x) (.ref k) l σ Q X:=λv w s a r p=>by
 refine r.jG λ_=>p.jo λ_=>?_;refine zO (a.g.objs k _ b) λe es n g r j _=>?_;have hm:=Ia (P:=c.prog) g r j;have m:(σ.μ k == agK)=LB:=by
  rw[VF];intro q;have z:=(a.g.own (σ.μ k) (by rw[e];simp)).1;rw[q]at z;exact c.mods z
 refine wpAny_notIn_of (akg _ _ x _) m hm ?_;cases q:fs.lookup x with
 |none=>rw[yF _ _ _ (r.miss x q)];exact dF a (.bool _) (by rw[q]at h;exact h)
 |some y=>refine aM (r.find x q) λu i _=>?_;rw[yF _ _ _ i];exact dF a (.bool _) (by rw[q]at h;exact h)
variable{tg:LF}
def AA(c:GC)(it:LP)(N:Int)(i:Nat)(σ:Sg)(h:VG):Prop:=σ.σ it=LA/\c.base.get? it=LA/\amM h it i (N - i) 1
theorem AA.my(x:AA c it N i σ h):∀b∈[it],σ.σ b=LA/\c.base.get? b=LA/\∃o,h.get? b=Y o/\iO o:=λb q=>by
 rw[aeq.mp q];exact⟨x.1,x.2.1,_,x.2.2,⟨_,rfl⟩,_,rfl,by decide⟩
theorem Nh(hq:c.quiet=W):nX c f tg it [it] (AA c it N) (λi x _=>(i:Int)< N/\x = .int i) (λi _=>N<=(i:Int)):=by
 refine⟨λst=>st.my,λ{i l σ s ain h'} m st S _=>?_,λ{i l σ s x P E} m st w k=>?_,λ{i l σ s P E} m st C k=>?_⟩
 .refine fS st λa b e=>?_;refine bg (Cn (i:=0) m e ⟨⟨_,rfl⟩,_,rfl,by decide⟩ a S) λx y=>?_;exact⟨x,b,y⟩
 .refine bg w λlt j=>?_;subst j;refine wpAny_pyNext_range_item st.2.2 (by lia) λh' hit sb=>?_;have h:amM h' it ((i+1:Nat):Int) (N - ((i+1:Nat):Int)) 1:=by
   have e1:((i+1:Nat):Int)=(i:Int)+1:=rfl;have e2:N - ((i+1:Nat):Int)=N - (i:Int) - 1:=by rw[Int.sub_sub];rfl
   rw[e2,e1];exact hit
  refine k _ h' (s.toks+1) λB A z=>Ot (s:={s with heap:=h',toks:=s.toks+1}) h rfl rfl (by decide) (z h' (Dd sb) ⟨st.1,st.2.1,h⟩ (.int _ _))
 .exact wpAny_pyNext_range_end (m.g.hand hq) st.2.2 (by lia) λh' p=>k h' s.toks (NP p)
theorem ac3{P:LD->LG->Prop}{E:LD->LG->Prop}(hq:c.quiet=W)(e:aeK 0 n 1=W)(a:R c f l σ s)(g:IsRange s.heap r 0 n 1 t u v)(h:∀it fp St h' t,nX c f tg it fp St (λi x _=>(i:Int)< QG 0 n 1/\x = .int i) (λi _=>QG 0 n 1<=(i:Int))->(∀b∈fp,s.heap.get? b=LA)->s.heap.StaysIn h'->St 0 σ h'->P (.ref it) {s with heap:=h',toks:=t}):wpAny (LS c.prog c.w) f.A (amV (.ref r)) P E s:=by
 refine anw g e ?_;refine h _ _ _ _ s.toks (Nh (it:=s.heap.objs.size) (N:=QG 0 n 1) hq) vY (gH _ _) ⟨a.g.sX (LL _),a.g.mS (LL _),?_⟩;have:=VU s.heap (o:={ cls:=.type "range_iterator",data:=.fields #[rawInt 0,rawInt (QG 0 n 1),rawInt 1]}) rfl;unfold amM;rw[show QG 0 n 1 - ((0:Nat):Int)=QG 0 n 1 from apo _];exact this
theorem Eh{P:LD->LG->Prop}(B:dX c fv)(z:noStar (e::r)=W)(h:jy c f (e::r) l σ (λxs b=>∀vs a,R c f l b a->aJ f.P f.pv σ s.heap b a.heap->bh (b.V f.pv) a.heap vs xs->wpAny (LS c.prog c.w) f.A (call fv vs) P (dH c f σ s λl' x ain=>l'=l/\X x ain) a) X)(y:R c f l σ s): wpAny (LS c.prog c.w) f.A (callWith pos fv [] (alj pos (akr (e::r) f.env)) []) P (dH c f σ s λl' x ain=>l'=l/\X x ain) s:=by
 rw[AP pos f.env z];refine aog (P:=λh=>c.K.In h) (by rw[KP];rfl) B ?_;exact evalArgs_plain (wC (DG (Q:=λxs b=>∀vs a,R c f l b a->aJ f.P f.pv σ s.heap b a.heap->bh (b.V f.pv) a.heap vs xs->wpAny (LS c.prog c.w) f.A (call fv vs) P (dH c f σ s λl' x ain=>l'=l/\X x ain) a) h s y) (λvs a xs b r i j m=>⟨ik i.g,m vs a i j r⟩) λ_ _ p=>p)
theorem Uv{Z:Int->Sg->Prop}{K:List O->Sg->Prop}(h:bF c f e l σ (λz a=>∃n,z = .int n/\aeK 0 n 1=W/\Z n a) X)(k:∀a n,aeK 0 n 1=W->Z n a->K [.int n] a):jy c f [e] l σ K X:=j4.mono h (λx b i=>jU i λn e sm q=>by subst e;exact k b n sm q) λ_ _ z=>z
theorem Vs{N:(Nat->bj)->(Nat->List MO->Prop)->Sg->Prop}(hq:c.quiet=W)(hn:noStar [e]=W)(h:bF c f (.Name x np) l σ (λy A=>y = .ty "range" /\ bF c f e l A (λz m=>∃n,z = .int n/\aeK 0 n 1=W/\N (λi x _=>(i:Int)< QG 0 n 1/\x = .int i) (λi _=>QG 0 n 1<=(i:Int)) m) X) X): AH c f tg (.Call (.Name x np) [e] [] pos) l σ N X:=λs Z =>
 ak5 (dc (h s Z) (λv E y A r G B ⟨T,H⟩=>by
  subst T;cases r.Jv;refine VL (Eh (r:=[]) (dX.ty "range") hn (s:=E) (Uv H λm n sm q vs j L I rl=>?_) G) (λ_ _ p=>p) λ_ _ p=>p.after B;refine aM rl.s8 λw M a=>?_;subst M;refine LJ a.int_inv λtn M=>?_;subst M
  .refine call_range_1 ?_;have st:j.heap.StaysIn (j.heap.push { cls:=.type "range",data:=.fields #[.int 0 j.toks,.int n tn,.int 1 (j.toks+1)]}):=gH _ _;have S:=(L.grow st).tok (j.toks+1+1);refine ac3 (tg:=tg) hq sm S (apD _ _ _ _ _ _ _) λit fp St h' t D fr C s0=>?_;have S3:aJ f.P f.pv σ s.heap m _:=(B.trans I).trans (aJ.grow st);exact⟨it,fp,St,_,_,m,rfl,(S.grow C).tok t,S3.trans (aJ.grow C),D,λb z=>lp.of S3 (fr b z),s0,q⟩) λ_ _ p=>p)
def Du(c:GC)(k:Nat)(a it e:LP)(i:Nat)(σ:Sg)(h:VG):Prop :=(σ.σ e=LA/\c.base.get? e=LA/\∃b,IsEnum h e it i b)/\ju c it "list_iterator" #[.ref a,.int i 0] σ h/\k < σ.H.length/\σ.μ k=a
theorem Du.my(x:Du c k a it e i σ h):∀b∈[e,it],σ.σ b=LA/\c.base.get? b=LA/\∃o,h.get? b=Y o/\iO o:=λb q=>by
 rcases VM.mp q with rfl|q
 .refine te x.1 λm x2 j x3=>?_;exact⟨m,x2,_,x3,⟨_,rfl⟩,_,rfl,by decide⟩
 .exact x.2.1.my (by decide) b q
theorem aau{x1}(hq:c.quiet=W)(ne:e≠it):nX c f (.Tuple elts x1 pos) e [e,it] (Du c k a it e) (λi x H=>∃xs y,H[k]?=Y (.lst xs)/\xs[i]?=Y y/\x = .tup [.int i,y]) (λi H=>∃xs,H[k]?=Y (.lst xs)/\xs[i]?=LA):=by
 refine⟨λst=>st.my,λ{i l σ s ain h'} m st S _=>?_,λ{i l σ s x P E} m st gx Z=>?_,λ{i l σ s P E} m st sp Z=>?_⟩
 .refine i4 st λh G lt A=>?_;refine te h λC b1 p e1=>?_;refine bg (Cn (i:=0) m e1 ⟨⟨_,rfl⟩,_,rfl,by decide⟩ C S) λx y=>?_;exact⟨⟨x,b1,p,y⟩,G.keep (by decide) m S,LR lt S.n,(S.mu k lt).trans A⟩
 .refine vf gx λxs y M D B=>?_;subst B;refine i4 (id st) λh j lt A=>?_;refine te h λC b1 p e1=>?_;refine k7 j λi1 G o T d1 I=>?_;refine dD (m.g.objs k _ M) λ_ vs n g r=>?_;rw[A]at g;refine aM (r.get D) λv hv rv=>?_;refine amN (i:=i) (items:=vs.toArray) e1 ⟨o,T,d1,I⟩ ⟨_,g,rfl,_,rfl⟩ (by simpa using hv) ne λh' eo hit ht hz N=>?_;have io:∀b∈[e,it],∃o,s.heap.get? b=Y o/\iO o:=λb q=>(st.my b q).2.2;have tne:s.heap.objs.size≠e:=ans (VQ e1);refine Z _ h' (s.toks+1) λP2 E2 hh=>alU (s:={s with heap:=h',toks:=s.toks+1}) eo λh2 L sb=>?_;have keep:∀b o,b∉[e,it]->s.heap.get? b=Y o->h2.get? b=Y o:=λb o q z=>by
   have q1:b≠e:=λw=>q (by rw[w];simp);have q2:b≠it:=λw=>q (by rw[w];simp);exact(sb.2 b q1).trans (N b o q1 q2 z)
  refine jU hit λoi j1 j2 j3=>?_;refine hh h2 keep ⟨⟨C,b1,_,L⟩,⟨i1,G,oi,(sb.2 it (aaU ne)).trans j1,j2,j3⟩,lt,A⟩ ?_;exact .tup (vs:=[_,_]) (n:=0) (m.g.wI (LL _)) ((sb.2 _ tne).trans ht) (.cons (.int _ _) (.cons (rv.go (Go.fp io keep)) .nil))
 .refine aM sp λxs M D=>?_;refine i4 (id st) λh j lt A=>?_;refine te h λC b1 p e1=>?_;refine k7 j λi1 G o T d1 I=>?_;refine dD (m.g.objs k _ M) λ_ vs n g r=>?_;rw[A]at g;refine am1 (i:=i) (items:=vs.toArray) (m.g.hand hq) e1 ⟨o,T,d1,I⟩ ⟨_,g,rfl,_,rfl⟩ (by
   rw[VS]at D;simp;rw[r.length];exact D) λh' eb=>Z h' s.toks λb o q z=>eb b o (λw=>q (by rw[w];simp)) z
theorem Vd(i:a.natAbs.log2 < 1920)(h:Q (.str (ami (toString a))) σ):eZ c f (.type "str") [.int a] l σ Q X:=λvs s e r=>by
 refine aM r.s8 λv b p=>?_;subst b;refine LJ p.int_inv λt b=>?_;subst b;exact PySem.P.str_of_int i (dF e (.str _ _) h)
theorem U3(i:am2 x=Y n)(e:x.length<=640)(h:Q (.int n) σ):eZ c f (.type "int") [.str x] l σ Q X:=λvs s b r=>by
 refine aM r.s8 λv a p=>?_;subst a;refine LJ p.str_inv λt a=>?_;subst a;exact PySem.W.KIN.call_text i e (dF b (.int _ _) h)
theorem Vf(j:listOf σ.H x=Y xs)(m:xs.length<=WE)(h:Q (.tup xs) σ):eZ c f (.type "tuple") [x] l σ Q X:=λvs s i r=>by
 refine aM r.s8 λv b p=>?_;subst b;refine ia (qv i p j) λa us n b g rs=>?_;subst b;refine PySem.call_tuple_list ⟨_,g,rfl,_,rfl⟩ (λh' k=>?_) (by rw[QD,rs.length];exact m);have e:R c f l σ {s with heap:=h'}:=i.grow k;exact⟨.tup xs,σ,Jq e (rs.go (Go.stays k)) _,e.push _,(aJ.grow k).trans (aJ.push _ _),h⟩
theorem Vb(z:listOf σ.H x=some xs)(A:xs.length<=WE)(h:∀m:Sg,m.H=σ.H++[.lst xs]->Q (.ref σ.H.length) m):eZ c f (.type "list") [x] l σ Q X:=λvs s i r=>by
 refine aM r.s8 λv b p=>?_;subst b;refine ia (qv i p z) λa us n b g rs=>?_;subst b;refine PySem.call_list_seq a (.inl rfl) g rfl rfl (λh' c' k e=>?_) (by rw[QD,rs.length];exact A);have st:s.heap.StaysIn h':=k;have j:(σ.add s.heap.objs.size (.lst xs) none).μ σ.H.length=s.heap.objs.size:=VD rfl;have w:∀y,(none:Option LP)=some y->s.heap.objs.size<=y/\∃o,h'.get? y=some o:=λy e=>by exact bR e
 refine⟨.ref σ.H.length,σ.add s.heap.objs.size (.lst xs) none,Rel.added,i.add st (LL _) ⟨_,e⟩ w ⟨?_,us,c',?_,?_⟩,aJ.add i.g st (LL _) λ_ e=>by exact bR e,h _ rfl⟩
 .rw[j];exact VD rfl
 .rw[j];exact e
 .exact rs.go (Go.add i.g st (LL _) λ_ e=>by exact bR e)
noncomputable def ou(d:ajY):List ajY->Option Nat
 | []=>LA
 |x::r=>if VV x d then Y 0 else(ou d r).map (· + 1)
theorem NS:∀{ds:List ajY}{j:Nat},ou d ds=Y j->(∃x,ds[j]?=Y x/\VV x d=W)/\∀m x,m < j->ds[m]?=Y x->VV x d=LB:=by
 intro ds;induction ds with
 |nil =>
  exact@λ_ e=>by exact bR e
 |cons x r A =>
  exact@λj e=>by
   unfold ou at e;by_cases q:VV x d=W
   .rw[VD q]at e;have B:=LC e;clear e;subst B;exact⟨⟨x,rfl,q⟩,λm y lt=>absurd lt (akf _)⟩
   .rw[QE q]at e;refine aM (akt.mp e) λi hi p=>?_;subst p;refine bg (A hi) λh k=>?_;refine aM h λy a b=>?_;refine⟨⟨y,by simpa using a,b⟩,λm z lt w=>?_⟩;induction m using cN with
    |zero=>simp at w;subst w;simpa using q
    |succ m=>exact k m z (by lia) (by simpa using w)
theorem C6{vs:List LD}:∀{ds:List ajY}{as:List LP},ace ds=W->aos h vs ds as->∀(j:Nat) {v:LD},vs[j]?=Y v->∃x,ds[j]?=Y x/\anx h v=x:=by
 induction vs with
 |nil=>exactλ_ _ j v e=>nK e
 |cons a vs m =>
  intro ds as i r j v e;cases r with
  |cons r1 p =>
   refine aY (by simpa only[ace]using i) λh1 b=>?_;induction j using cN with
   |zero=>exact⟨_,rfl,by rw[←LC e];exact SeqAt.readOf_eq h1 r1⟩
   |succ j=>exact m b p j e
theorem readsAll_len{vs:List LD}:∀{ds:List ajY}{as:List LP},aos h vs ds as->vs.length=ds.length:=by
 induction vs with
 |nil=>intro ds as r;cases r;rfl
 |cons a vs b=>intro ds as r;cases r with|cons _ r=>exact congrArg (· + 1) (b r)
theorem Va(n m:Nat)(hx:toPy σ.H n x=Y (.list ds))(hy:toPy σ.H m y=Y d)(L:ace ds=W)(l2:d.canLay0=W)(dp:d.depth<=60)(hz:ds.length < 2 ^ 60)(e:ou d ds=Y j)(h:Q (.int j) σ): eZ c f (.builtin "list.index") [x,y] l σ Q X:=λvs s B r=>by
 refine vf r.Jt λv w E p p'=>?_;subst E;refine LJ (jV B n hx p) λas ra=>?_;refine LJ (jV B m hy p') λbs rb=>?_;have hu:=B.units;cases ra with
 | @list a ob b nn _ Z h1 N S h4 =>
  obtain⟨cls,dd,dt,sl⟩:=ob;dsimp only at N S;subst N S;refine bg (NS e) λD k=>?_;refine aM D λz T z2=>?_;have ln:=readsAll_len h4;have lt:j < ds.length:=(Sa.mp T).1;have wA:j < b.size:=by rw[←anl,ln];exact lt
  have I:f.A.units+1+min (als ds) d.depth < cLine:=wD B dp;refine al8 amz ⟨_,h1,rfl⟩ PySem.F.entry_list_index (PySem.F.args_list_index_2 _ _)
   (SeqAt.list_indexAt a b nn dd sl w (λy=>VV (anx s.heap y) d) j wA (by lia) ?_ ?_) ⟨h1,aov h4 rb L l2 I,dF B (.int _ _) h⟩
  .refine aM (C6 L h4 j (v:=b[j]) (by simp[wA])) λq C M=>?_;rw[T]at C;have zq:=LC C;clear C;subst zq;rw[M];exact z2
  .intro i hi G;refine aM (C6 L h4 i (v:=b[i]) (by simp[hi])) λq C M=>?_;rw[M];exact k i q G C
end
open PySem.AutoSeq1 (wpAny_loadPart')
theorem ahj(l:LP)(items:Array LD)(n:Nat)(x:LD)(e:LD->Bool)(j:Nat)(D:j < items.size)(hit:e items[j]=W)(E:∀m (hm:m < items.size),m < j->e items[m]=LB): Meets (alf.«tuple.index» ⟨[.ref l,x],[]⟩) (λA R s=>s.heap.get? l=Y {cls:=.type "tuple",dict:=LA,data:=.seq items n,slots:=#[]}/\(∀y,y∈items->SeqAt.EqAt A.in1 s y x (e y))/\R (.ok (.ret (.int j s.toks))) {s with toks:=s.toks+1}):=by
 intro B w A R s h;obtain⟨L,g,d,M,os⟩:=s;refine fS h λI he h=>?_;unfold alf.«tuple.index»;simp only[anm]
 wp_walk using aoQ I,wpAny_forIn_list _ (λrest b s'=>s'=⟨L,g,d,M,os⟩/\b=(LA,())/\∃i,i<=j/\rest=List.range' i (items.size - i)) _
 case turn =>
  intro i rest b s' z;refine hZ z λf p G a C=>?_;subst f;subst p;rw[show items.size - G=(items.size - (G+1))+1 by rw[alG,akk (an2 (aeI a D))],List.range'_succ]at C;injection C with h1 H
  subst h1;have lt:i < items.size:=aeI a D;rw[al5 lt];dsimp only;refine wpAny_bind (he _ (Array.getElem_mem lt) B w _ _ ?_);by_cases q:i=j
  .subst q;rw[hit]
   wp_walk
   exact h
  .rw[E i lt (alN a q)]
   wp_walk
   exact⟨rfl,rfl,i+1,alN a q,H⟩
 case fin =>
  intro b s' z;refine hZ z λf p i a C=>?_;subst f;subst p;have:=congrArg List.length C;rw[List.length_range']at this;exact absurd this.symm (Nat.sub_ne_zero_of_lt (aeI a D))
 case h =>
  exact⟨rfl,rfl,0,aeN _,by simp[apF]⟩
section
variable{c:GC}{f:Fc}{l:Lc}{σ ain:Sg}{s s':LG}{Q:QV}{X:QX}
theorem Ve(n m:Nat)(N:eQ (toPy σ.H n) xs=Y ds)(S:toPy σ.H m y=Y d)(G:ace ds=W)(T:d.canLay0=W)(M:d.depth<=60)(e:ou d ds=Y j)(h:Q (.int j) σ): eZ c f (.builtin "tuple.index") [.tup xs,y] l σ Q X:=λvs s x r=>by
 refine vf r.Jt λv w b p Z=>?_;subst b;refine ph p.Jp λa us nn b _ g rs=>?_;subst b;refine LJ (C7 (λe r=>jV x n e r) rs N) λas h4=>?_;refine LJ (jV x m S Z) λbs rb=>?_;have hu:=x.units;refine bg (NS e) λC k=>?_;refine aM C λz L z2=>?_;have ln:=readsAll_len h4;have lt:j < ds.length:=(Sa.mp L).1;have wA:j < us.toArray.size:=by rw[QD,ln];exact lt
 have E:f.A.units+1+min (als ds) d.depth < cLine:=wD x M;refine al8 amm ⟨_,g,rfl⟩ PySem.F.entry_tuple_index (PySem.F.args_tuple_index_2 _ _)
  (ahj a us.toArray nn w (λy=>VV (anx s.heap y) d) j wA ?_ ?_) ⟨g,aov h4 rb G T E,dF x (.int _ _) h⟩
 .refine aM (C6 G h4 j (v:=us.toArray[j]) (by simp)) λq B I=>?_;rw[L]at B;have zq:=LC B;clear B;subst zq;rw[I];exact z2
 .intro i hi D;refine aM (C6 G h4 i (v:=us.toArray[i]) (by simp)) λq B I=>?_;rw[I];exact k i q D B
inductive JZ:LD->AK->Prop
 |int (i:Int) (t:Tok):JZ (.int i t) (.int i)
 |str (x:Str) (t:Tok):JZ (.str x t) (.str x)
theorem QJ{K:Type} [DecidableEq K] {g:K->AK}(h:∀a b,g a=g b->a=b) (k:K) {ks:List K}:∀{vs:List LD}{xs:List O},ks.length=vs.length->ja c vs xs -> (∀y,((ks.map g).zip xs).lookup (g k)=Y y->∃v,alg (ks.zip vs) k=Y v/\pK c v y)/\(((ks.map g).zip xs).lookup (g k)=LA->alg (ks.zip vs) k=LA):=by
 induction ks with
 |nil=>exactλ_ _=>⟨λy e=>nK e,λ_=>rfl⟩
 |cons k0 ks j =>
  intro vs xs e r;cases r with
  |nil=>exact absurd e (ajv _)
  | @cons v vs x xs a r =>
   have i:=j (akQ e) r;rw[VR,aki,VC,aki];by_cases q:k=k0
   .subst q;have b:(g k == g k)=W:=abk _;rw[b];have z:alg ((k,v)::ks.zip vs) k=Y v:=by unfold alg;rw[amG (by simp)];rfl
    exact⟨λy e=>⟨v,z,LC e▸a⟩,λe=>sN e⟩
   .have b1:(g k == g k0)=LB:=VF.mpr λz=>q (h _ _ z);have b2:alg ((k0,v)::ks.zip vs) k=alg (ks.zip vs) k:=by
     unfold alg;rw[amH (by simpa using aaU q)]
    rw[b1,b2];exact i
noncomputable def zZ:AK->AK->Bool
 | .int _,.int _=>W
 | .str _,.str _=>W
 |_,_=>LB
theorem Mr{m:List (AK×O)}(D:gX c a m)(I:∃p r,m=p::r/\zZ p.1 k=W): ∃(K:Type) (_:DecidableEq K) (A:KeyKind c.prog c.w K) (E:K) (G:List (K×LD)) (z:Nat),c.base.DictAt A a G z/\(a == agK)=LB/\(∀V h v,Rel V h v k.av->A.is E v=W) /\ (∀y,m.lookup k=Y y->∃v,alg G E=Y v/\pK c v y)/\(m.lookup k=LA->alg G E=LA):=by
 refine pg I λp r e B=>?_;rcases D with @⟨ks,vs,xs,z,D,H,ln,C⟩| @⟨ks,vs,xs,z,D,H,ln,C⟩
 .cases k with
  |int i=>exact⟨Int,_,_,i,_,z,D,C,λV h v r=>(by refine LJ r.int_inv λt j=>?_;subst j;simp[aof,apA]),QJ (g:=AK.int) (λa b q=>by cases q;rfl) i ln H⟩
  |str x =>
   have:p∈(ks.map AK.int).zip xs:=by rw[e];exact .head _
   have:=(ajE (a:=p.1) (b:=p.2) this).1;refine aM (aak.mp this) λi _ q=>?_;rw[←q]at B;exact bL B
 .cases k with
  |str x=>exact⟨Str,_,_,x,_,z,D,C,λV h v r=>(by refine LJ r.str_inv λt j=>?_;subst j;exact akg _ _ x t),QJ (g:=AK.str) (λa b q=>by cases q;rfl) x ln H⟩
  |int i =>
   have:p∈(ks.map AK.str).zip xs:=by rw[e];exact .head _
   have:=(ajE (a:=p.1) (b:=p.2) this).1;refine aM (aak.mp this) λi _ q=>?_;rw[←q]at B;exact bL B
theorem WY{b:List (AK×O)}(D:gX c a b)(i:∃p r,b=p::r/\zZ p.1 k=W)(m:b.lookup k=Y y)(h:Q y σ): bY c f (ajn value slice) (.gl a) k.av l σ Q X:=λv w s e r B=>by
 have:=r.BQ;subst this;obtain⟨K,_,A,G,H,C,D,E,ki,z,_⟩:=(Mr D i);refine aM (z y m) λu j x=>?_;have hm:=(DictAt.stays D e.g.stays).dictOf.mapOf;exact qJ hm.typeIs anW.lookup (aoq (ki _ _ _ B) hm j (dF e (x.here e.g) h))
theorem Wt{b:List (AK×O)}(D:gX c a b)(j:∃p r,b=p::r/\zZ p.1 k=W)(h:Q (.bool (b.lookup k).isSome) σ): bY c f (VK .In) k.av (.gl a) l σ Q X:=λv w s e r A=>by
 have:=A.BQ;subst this;obtain⟨K,_,z,C,E,B,D,i,ki,x,k2⟩:=(Mr D j);have hm:=(DictAt.stays D e.g.stays).dictOf.mapOf;refine wpAny_in_of (ki _ _ _ r) i hm ?_;cases q:b.lookup k with
 |none=>rw[k2 q];exact dF e (.bool _) (by rw[q]at h;exact h)
 |some y=>refine aM (x y q) λu m _=>?_;rw[m];exact dF e (.bool _) (by rw[q]at h;exact h)
theorem Wk(z:listOf σ.H x=Y xs)(A:listOf σ.H y=Y ys)(p:xs.length≠ys.length)(h:Q (.bool LB) σ):bY c f (VK .Eq) x y l σ Q X:=λv w s i r B=>by
 refine ia (qv i r z) λa vs n e g rs=>?_;subst e;refine ia (qv i B A) λb us m e j rt=>?_;subst e;have C:=i.units;exact SeqAt.eq_list_lengthsAt ⟨_,g,rfl,_,rfl⟩ ⟨_,j,rfl,_,rfl⟩ (by simpa[rs.length,rt.length]using p) (by lia) ⟨_,σ,.bool _,i,.refl,h⟩
theorem WI(z:listOf σ.H x=Y xs)(A:listOf σ.H y=Y ys)(p:xs.length≠ys.length)(h:Q (.bool W) σ):bY c f (VK .NotEq) x y l σ Q X:=λv w s i r B=>by
 refine ia (qv i r z) λa vs n e g rs=>?_;subst e;refine ia (qv i B A) λb us m e j rt=>?_;subst e;have C:=i.units;exact apg ⟨_,g,rfl,_,rfl⟩ ⟨_,j,rfl,_,rfl⟩ (by simpa[rs.length,rt.length]using p) (by lia) c.prog c.w _ _ ⟨_,σ,.bool _,i,.refl,h⟩
end
section
variable{prog:ajI}{w:ac9}{A:adh}{E:LD->LG->Prop}{s:LG}{K:aeb}{x C:LP}{ox:Obj}{od:Option Obj}{name:Str}{expr:Bool}{v:LD}
structure Ao (K:aeb) (C:LP):Prop where
 ga:aeJ K (.ref C) "__getattribute__" = Y (Y (.builtin "BaseException.__getattribute__"))
 hook:aeJ K (.ref C) "__getattr__" = Y LA
 iY:mroIn K C (.type "BaseException")=Y W
 dict:ajM K C=W
theorem aep{E:LD->LG->Prop}{P:Fin->LG->Prop}{d:am9}{os:abh}(a:ala (LS prog w) hp (amZ (.ref x)) (.ref C))(b:ala (LS prog w) hp (amA (.ref x) (.ref C) name) (.value v))(h:P (.done (.ret v)) ⟨hp,gs,d,t,os⟩): wpAny (LS prog w) A (alf.«object.__getattribute__» ⟨[.ref x,.str name tk],[]⟩) P E ⟨hp,gs,d,t,os⟩:=by
 unfold alf.«object.__getattribute__»;refine wpAny_bind (wpAny_pure ?_);show wpAny _ _ (apa (.str name tk) >>= _) _ _ _;refine wpAny_bind (wpAny_pure ?_);refine wpAny_bind (a.at (wpAny_bind (b.at ?_)));exact wpAny_pure h
theorem abV{E:LD->LG->Prop}{Q:Unit->LG->Prop}(a:ala M s.heap (al9 (.ref x) (.type "BaseException")) W)(q:Q () s):wpAny M A (akE "BaseException.__getattribute__" ⟨[.ref x,nameV],[]⟩) Q E s :=@check_slot M A E s "BaseException.__getattribute__" "BaseException" "__getattribute__" (.ref x) [nameV] [] Q (by decide +kernel) (by decide +kernel) a (PySem.F.args_bexc_ga (.ref x) nameV) q
theorem abU{R:akG->LG->Prop}{d:am9}{os:abh}(a:ala (LS prog w) hp (amZ (.ref x)) (.ref C))(b:ala (LS prog w) hp (amA (.ref x) (.ref C) name) (.value v))(e:ala (LS prog w) hp (al9 (.ref x) (.type "BaseException")) W)(h:R (.ok (.ret v)) ⟨hp,gs,d,t,os⟩): ajz (LS prog w) A (.call (.builtin "BaseException.__getattribute__") ⟨[.ref x,.str name tk],[]⟩) R ⟨hp,gs,d,t,os⟩:=alr alH.ga.plain PySem.F.entry_bexc_ga (abV (s:=⟨hp,gs,d,t,os⟩) e (aep a b h))
theorem abc{Q:LD->LG->Prop}(X:K.In s.heap)(I:InstAt s.heap x ox C od)(g:Ao K C)(l:findObj K C od name=Y (.value v))(m:handedIn v=W)(h:Q v {s with toks:=s.toks+1}): wpAny (LS prog w) A (alE (.ref x) name expr) Q E s:=by
 obtain⟨p,y,d,t,os⟩:=s;have a:=I.type (M:=LS prog w);have e:=akS (M:=LS prog w) X g.ga;have f:=akS (M:=LS prog w) X g.hook;have i:=looks_find (M:=LS prog w) X I l;have j:ala (LS prog w) p (al9 (.ref x) (.type "BaseException")) W:=a.andThen (looks_mroIn X g.iY);unfold alE getAttrBy;refine wpAny_bind (wpAny_mkText (aas (wpAny_bind (a.at (wpAny_bind (e.at ?_))))));have b:(anh "BaseException.__getattribute__" == anh "object.__getattribute__")=LB:=by decide +kernel
 dsimp only;rw[QE (by rw[b,ao0];decide)];unfold getAttrByItsOwn hookBefore;rw[VD (show onTheHeap (.ref C)=W from rfl)];refine wpAny_bind (f.at (wpAny_bind (wpAny_attempt (aas ?_))));unfold callGetattribute;rw[QE (by cases expr<;>decide)];unfold boundAndCalled;refine wpAny_bind (amL (alH.ga.bind (.ref x)) ?_);refine al7 (abU a i j ?_);show wpAny _ _ (handedOut v) _ _ _;rw[handedOut_of m];exact wpAny_pure h
end
section
variable{c:GC}{f:Fc}{l:Lc}{σ ain:Sg}{s s':LG}{Q:QV}{X:QX}
theorem Wf(g:Ao c.K C)(w:aeJ c.K (.ref C) name=Y LA)(x:fs.lookup name=Y y)(z:y.wH=W)(h:Q y σ): qW c f (λv=>alE v name b) (.exc C fs) l σ Q X:=λv s e r=>by
 obtain⟨a,d,A,es,n,rfl,_,_,e1,e2,m,i,j,rf⟩:=r.aba;refine aM (cD.find name rf x) λu p rv=>?_;exact abc (ik e.g) (I:=⟨e1,e2,m,by rw[i];exact j⟩) (od:=Y (aaR es n)) g (findObj_own g.dict w (by rfl) (by rw[aoe];exact p)) (rv.handed z) (dF e rv h)
theorem U6(j:σ.H[k]?=Y (.bD fs))(B:fs.length<=2 ^ 62)(h:Q (.int fs.length) σ):eZ c f (.builtin "len") [.ref k] l σ Q X:=λvs s b r=>by
 refine aM r.s8 λv a p=>?_;subst a;refine bg p.nR λa _=>?_;subst a;refine zO (b.g.objs k _ j) λe es n g r m nd=>?_;refine jU (Qt (P:=c.prog) (w:=c.w) r) λkvs p C i=>?_;have y:(kvs.map (·.1)).Nodup:=by rw[i];exact nd
 have D:s.heap.DictOf (ang c.prog c.w) (σ.μ k) kvs:=⟨_,es.toArray,n,g,⟨rfl,rfl,rfl⟩,rfl,λe he=>by
  refine pg (m.all e (by simpa using he)) λx t e1 e2=>?_;exact⟨x,by rw[e1];exact akg _ _ x t,e2⟩,by simpa using p,y⟩
 have A:(σ.μ k == agK)=LB:=by
  rw[VF];intro q;have z:=(b.g.own (σ.μ k) (by rw[e];simp)).1;rw[q]at z;exact c.mods z
 have ln:kvs.length=fs.length:=by rw[←QC (f:=(·.1)),i,QC]
 exact call_len_dict A D (by lia) (by rw[ln];exact dF b (.int _ _) h)
theorem Yk{b:List (Option LF)}(hD:litPairs b values=some [(.str x,.int i)])(j:b.all (·.isSome)=true)(hl:b.length=values.length)(Z:b≠[])(m:b.length<=15)(h:∀N:Sg,N.H=σ.H++[.bD [(x,.int i)]]->Q (.ref σ.H.length) N):bF c f (.Dict b values pos) l σ Q X:=λs C=>by
 refine Dict_lits_str hD rfl (by simp[strKeysOf]) j hl Z m λa o ait tk D E T k=>?_;refine aM T λkvs A fl=>?_;refine nM A λes S p od ok op on=>?_;refine fS p λI L M=>?_;cases fl with
 | @cons x _ _ _ _ fv fr =>
 cases fr;refine LJ fv.int_inv λt z=>?_;subst z;obtain⟨oc,odi,oda,osl⟩:=o;dsimp only at I L M od;subst I L M od;obtain⟨el⟩:=es;have st:s.heap.StaysIn ait:=k;have kr:i9 (((σ.add a (.bD [(x,.int i)]) none)).V f.pv) ait [(x,.int i t)] [(x,.int i)]:=.cons (.int _ _) .nil;refine bg (RA op kr λq hq=>ok q (by simpa using hq)) λr1 r2=>?_;have G:(σ.add a (.bD [(x,.int i)]) none).μ σ.H.length=a:=VD rfl;have A:∀y,(none:Option LP)=some y->s.heap.objs.size<=y/\∃o,ait.get? y=some o:=λy e=>by exact bR e
 have B:Ok c.w.params (σ.add a (.bD [(x,.int i)]) none) ((σ.add a (.bD [(x,.int i)]) none).V f.pv) ait σ.H.length (.bD [(x,.int i)]):=⟨by rw[G];exact VD rfl,el,S,by rw[G];exact E,r1,r2,by simp⟩;exact⟨.ref σ.H.length,_,Rel.added,(C.add st D ⟨_,E⟩ A B).tok tk,aJ.add C.g st D λ_ e=>by exact bR e,h _ rfl⟩
end
section
variable{prog:ajI}{w:ac9}{A:adh}{E:LD->LG->Prop}{s:LG}
theorem YL(b n:Nat)(hb:b<=n):akO LA (Y (b:Int)) 1 (n:Int)=(0,(b:Int)):=by
 unfold akO;have h1:¬((1:Int)< 0):=by decide
 have a:¬((b:Int)< 0):=Int.not_lt.mpr (akl b);simp only[h1,a,if_false]
 congr 1
 lia
theorem aeT(b:Nat):aj3 0 (b:Int) 1=b:=by
 unfold aj3;have h1:(1:Int) > 0:=by decide
 simp only[h1,if_true,Int.ediv_one]
 split<;>lia
theorem agB{sl:LP}{b n:Nat}{u:Tok}{Q:Int×Int×Nat->LG->Prop}(f:s.heap.IsSliceOf sl .none (.int b u) .none)(hb:b<=n)(h:Q (0,1,b) s): wpAny (LS prog w) A (alV (.ref sl) (pure (n:Int))) Q E s:=by
 refine jU (id f) λos a e p7=>?_;unfold alV apj;refine wpAny_bind (wpAny_bind (ajD a p7 (x:=.none) rfl (wpAny_bind (ajD a p7 (x:=.int b u) rfl (wpAny_bind (ajD a p7 (x:=.none) rfl (wpAny_pure ?_)))))));refine wpAny_bind (slicePart_none ?_);show wpAny _ _ (if ((1:Int) == 0)=W then _ else _) _ _ s;rw[QE (by decide)];refine wpAny_bind (slicePart_none (wpAny_bind (slicePart_int (wpAny_bind (wpAny_pure ?_)))));show wpAny _ _ (match akO LA (Y (b:Int)) 1 (n:Int) with|(lo,hi)=>pure (lo,(1:Int),aj3 lo hi 1)) _ _ s;rw[YL b n hb];show wpAny _ _ (pure ((0:Int),(1:Int),aj3 0 (b:Int) 1)) _ _ s;rw[aeT b];exact wpAny_pure h
theorem aeR(xs:Array LD)(b:Nat):((agL b).filterMap λ(k:Nat)=>xs[((0:Int)+(k:Int)* 1).toNat]?).toArray=(xs.toList.take b).toArray:=by
 have e:(λ(k:Nat)=>xs[((0:Int)+(k:Int)* 1).toNat]?)=λk=>xs[0+k]?:=by
  funext k
  have:((0:Int)+(k:Int)* 1).toNat=0+k:=by rw[amn,Int.mul_one,aj8];rfl
  rw[this]
 rw[e];have:=pick_run xs 0 b;rw[List.filterMap_map]at this;have e2:((λx=>xs[x]?)∘λx=>0+x)=λk=>xs[0+k]?:=rfl;rw[e2]at this;rw[this];rfl
theorem abW{t sl:LP}{items:Array LD}{b:Nat}{u:Tok}{Q:LD->LG->Prop}(e:IsTup s.heap t items)(x:s.heap.IsSliceOf sl .none (.int b u) .none)(hb:b < items.size)(h:Q (.ref s.heap.objs.size) {s with heap:=s.heap.push {cls:=.type "tuple",data:=.seq (items.toList.take b).toArray} })(p:items.size<=WE):wpAny (LS prog w) A (amb (.ref t) (.ref sl)) Q E s:=by
 have a:sizeOk (.seq (items.toList.take b).toArray):=by
  show(items.toList.take b).toArray.size<=WE;rw[QD,List.length_take,anl];exact LI (aot _ _) p
 refine jU (id x) λos l i p7=>?_;have f:s.TypeIs (.ref sl) "slice":=⟨os,l,i⟩;unfold amb
 try with_reducible refine aas ?_
 first|refine wpAny_bind (wpAny_pure ?_)|skip
 refine wpAny_bind (anY e.typeIs (by decide) ?_);refine wpAny_bind (amw (name:=ami "__getitem__") e.typeIs akR
  (aor akR e.typeIs entry_tuple_getitem ?_ (args_tuple_getitem _ _)))
 show wpAny _ _ (aph (.ref t) >>= _) _ _ s;refine wpAny_bind (tupleItemsOf_ e ?_);refine wpAny_bind (wpAny_typeOf f ?_);rw[VD (by decide)];refine wpAny_bind (agB (n:=items.size) x (amh hb) ?_);have j:¬(((0:Int) == 0&&(1:Int) == 1&&b == items.size)=W):=by
  have:(b == items.size)=LB:=VF.mpr (WA hb);rw[this];simp
 show wpAny _ _ (if ((0:Int) == 0&&(1:Int) == 1&&b == items.size)=W then _ else _) _ _ s;rw[QE j,aeR items b]
 first
  |exact wpAny_bind (m:=akU _) (akw (wpAny_pure ⟨_,rfl,wpAny_pure h⟩) a)
  |exact wpAny_bind (m:=akU _) (akw (wpAny_bind (wpAny_pure (wpAny_pure ⟨_,rfl,wpAny_pure h⟩))) a)
  |exact wpAny_bind (wpAny_bind (m:=akU _) (akw (wpAny_pure (wpAny_pure ⟨_,rfl,wpAny_pure h⟩)) a))
variable{c:GC}{f:Fc}{l:Lc}{σ:Sg}{ain:Sg}{s':LG}{Q:QV}{X:QX}
theorem Wa{i e:LF}{xs:List O}{b:Nat}(hb:b < xs.length)(y:xs.length<=WE)(h:Q (.tup (xs.take b)) σ):vr c f i e (.tup xs) LA (Y b) LA l σ Q X:=λv sl G H vs s m r x z B C=>by
 refine ph r.Jp λa us n j D g rs=>?_;subst j;cases z;cases B;cases C;have p:IsTup s.heap a us.toArray:=⟨_,g,rfl,_,rfl⟩;refine qJ p.typeIs akR.lookup (abW p x (by rw[QD,rs.length];exact hb) ?_ (by rw[QD,rs.length];exact y));exact⟨.tup (xs.take b),σ,Jq (vs:=us.take b) m (rs.take b) 0,m.push _,aJ.push _ _,h⟩
end
theorem Ni:aoG (.type "dict_values") "__contains__" = pure LA:=by rw[typeLookup_type,builtinLookup_eq_fast];kernel_rfl
theorem MS:entryFor table "proto.contains_iter" = Y alf.«proto.contains_iter»:=entryFor_of_tree (by kernel_rfl)
theorem El:plainId "proto.contains_iter" = W:=by decide +kernel
theorem ab7{A:adh}(h:A.handled=LA):A.in1.handled=LA:=h
section
variable{prog:ajI}{w:ac9}{A:adh}{E:LD->LG->Prop}{s:LG}{K:Type} [DecidableEq K] {knd:KeyKind prog w K}
theorem ZP{it d:LP}{a:List (K×LD)}{m:Nat}{x:Str}{u:Tok}{R:akG->LG->Prop}(L:A.handled=LA)(Q:d≠it)(M:∀p∈a,∃y t,p.2 = .str y t):∀(n i:Nat) (s:LG),a.length - i=n->s.heap.IsValIter it d i a.length m->s.heap.DictAt knd d a m -> (∀h',amJ it s.heap h'->R (.ok (.ret (.bool ((a.drop i).any λp=>ajo x p.2)))) {s with heap:=h'})->ajz (LS prog w) A (.builtin "proto.contains_iter" ⟨[.ref it,.str x u],[]⟩) R s:=by
 intro n;induction n with
 |zero =>
  intro i s e hi f h;refine aoR MS ?_;rw[ana El _];unfold alf.«proto.contains_iter»;refine wpAny_bind (wpAny_pyNext_values_end (ab7 L) hi f (VS.mpr (am3 e)) λh' D=>?_);refine wpAny_bind (al6 (wpAny_pure ?_));have:=h h' D;rw[amO (am3 e)]at this;exact this
 |succ n N =>
  intro i s e hi f h;have lt:i < a.length:=Nat.lt_of_sub_eq_succ e;refine ve (M a[i] (ajO lt)) λy t B=>?_;have H:a[i]?=Y (a[i].1,.str y t):=by rw[←B];simp[lt]
  refine aoR MS ?_;rw[ana El _];unfold alf.«proto.contains_iter»;refine wpAny_bind (wpAny_pyNext_values_item hi f H λh' l sb=>?_);refine wpAny_bind (wpAny_eqBool_str ?_);rw[List.drop_eq_getElem_cons lt,ajX,B]at h;by_cases q:y=x
  .subst q;rw[VD (by simp)];refine wpAny_bind (al6 (wpAny_pure ?_));have:=h h' sb.extBut
   simpa[ajo]using this
  .rw[QE (by simpa using q)];refine wpAny_pure ⟨plainId_quiet El _,N (i+1) {s with heap:=h'} (by rw[alG,e];rfl) l (f.extBut sb.extBut Q) λI j=>?_⟩;have:=h I (λb o C G=>j b o C ((sb.2 b C).trans G));have z:ajo x (.str y t)=LB:=by simp[ajo,q]
   rw[z,ape]at this;exact this
theorem acK{a:List (K×LD)}{Q:LD->LG->Prop}(l:A.handled=LA)(m:∀p∈a,∃y t,p.2 = .str y t)(i:s.heap.IsValuesView v d)(f:s.heap.DictAt knd d a ep)(h:∀h',s.heap.StaysIn h'->Q (.bool (a.any λp=>ajo x p.2)) {s with heap:=h'}):wpAny (LS prog w) A (VK .In (.str x u) (.ref v)) Q E s:=by
 show wpAny _ _ (do return .bool (←contains (.ref v) (.str x u))) Q E s;refine wpAny_bind ?_;unfold contains
 try with_reducible refine aas ?_
 refine wpAny_bind (aoS i.typeIs Ni ?_);rw[QE (by decide)];refine wpAny_bind (wpAny_bind (aoS i.typeIs Ni (wpAny_pure ?_)));refine wpAny_bind (al6 ?_);refine wpAny_bind (wpAny_tryCatch (wpAny_pyIter_values i f ?_));refine wpAny_bind (wpAny_runValue ?_);have lt:=f.lt_size;have fr:s.heap.get? s.heap.objs.size=LA:=by
  cases q:s.heap.get? s.heap.objs.size with
  |none=>rfl
  |some o=>exact absurd (VQ q) (alR _)
 refine ZP l (WA lt) m a.length 0 _ (by simp) ⟨_,VU _ rfl,rfl,rfl⟩ (f.push _) λh' j=>?_;refine wpAny_pure (wpAny_pure (h h' λb o e=>?_));exact j b o (λz=>by rw[z,fr]at e;exact bR e) (UB _ e)
end
noncomputable def uT(x:Str):O->Bool
 | .str y=>y == x
 |_=>LB
noncomputable def uR:O->Bool
 | .str _=>W
 |_=>LB
section
variable{c:GC}{f:Fc}{l:Lc}{σ ain:Sg}{s s':LG}{Q:QV}{X:QX}
theorem agX{K:Type}{x:Str}{ks:List K}{vs:List LD}{xs:List O}(R:ja c vs xs):ks.length=vs.length->xs.all uR=W->(∀p∈ks.zip vs,∃y t,p.2 = .str y t)/\((ks.zip vs).any λp=>ajo x p.2)=xs.any (uT x):=by
 induction R generalizing ks with
 |nil=>intro _ _;rw[List.zip_nil_right];exact⟨λp m=>(by exact fj m),rfl⟩
 | @cons v vs y xs a r i =>
  intro e b;induction ks using cL with
  |nil=>cases e
  |cons k ks =>
  rw[alS,LM]at b;refine bg (i (akQ e) b.2) λj w=>?_;have q:=a ⟨λ_=>0,0,λ_=>False⟩ λ_ _ z=>z;obtain⟨z,rfl⟩: ∃z,y = .str z:=by revert b;cases y<;>intro b<;>first|exact⟨_,rfl⟩|exact nomatch b.1
  refine LJ q.str_inv λt h=>?_;subst h;rw[aki,ajX,ajX,w];refine⟨λp m=>?_,rfl⟩;rcases VM.mp m with rfl|m
  .exact⟨_,_,rfl⟩
  .exact j p m
theorem acJ{d:LP}{m:List (AK×O)}{x:Str}{u:Tok}{P:LD->LG->Prop}{E:LD->LG->Prop}{s:LG}(hq:c.quiet=W)(D:gX c d m)(B:m.all (λp=>uR p.2)=W)(M:R c f l σ s)(h:∀h',s.heap.StaysIn h'->P (.bool (m.any λp=>uT x p.2)) {s with heap:=h'}):s.TypeIs (.ref d) "dict" /\ (∃o,s.heap.get? d=Y o/\o.dict=LA)/\wpAny (LS c.prog c.w) f.A (call (.builtin "dict.values") [.ref d]) (λw i=>wpAny (LS c.prog c.w) f.A (VK .In (.str x u) w) P E i) E s:=by
 have G:∀{K:Type} [DecidableEq K] {j:KeyKind c.prog c.w K}{ks:List K}{vs:List LD}{xs:List O}{H:Nat},c.base.DictAt j d (ks.zip vs) H->ja c vs xs->ks.length=vs.length->(d == agK)=LB->xs.all uR=W ->
   (∀h',s.heap.StaysIn h'->P (.bool (xs.any (uT x))) {s with heap:=h'})->s.TypeIs (.ref d) "dict" /\ (∃o,s.heap.get? d=Y o/\o.dict=LA)/\wpAny (LS c.prog c.w) f.A (call (.builtin "dict.values") [.ref d]) (λw i=>wpAny (LS c.prog c.w) f.A (VK .In (.str x u) w) P E i) E s:=by
  intro K _ j ks vs xs H D z ln C B h;refine bg (agX (x:=x) z ln B) λi1 i2=>?_;have L:=DictAt.stays D M.g.stays;have hm:=L.dictOf;refine⟨hm.typeIs,(by refine ia hm λo es S Z T _=>?_;exact⟨o,Z,T.2.1⟩),?_⟩;refine call_meetsIn amo hm.typeIs PySem.F.entry_dict_values (PySem.F.args_dict_values_1 _) (meets_dict_values j d C) ⟨⟨_,hm⟩,?_⟩;refine acK (M.g.hand hq) i1 ⟨_,VU _ rfl,rfl,rfl⟩ (L.push _) λh' st=>?_;rw[i2];exact h h' λb o e=>st b o (UB _ e)
 have N:∀{I:Type}(ks:List I) (xs:List O) (g:I->AK),ks.length=xs.length->(((ks.map g).zip xs).all λp=>uR p.2)=xs.all uR/\(((ks.map g).zip xs).any λp=>uT x p.2)=xs.any (uT x):=by
  intro I ks;induction ks with
  |nil=>intro xs g e;cases xs<;>first|exact⟨rfl,rfl⟩|cases e
  |cons k ks ih =>
   intro xs g e;induction xs using cL with
   |nil=>cases e
   |cons y xs =>
    refine bg (ih xs g (by simpa using e)) λa b=>?_;simp only[VR,aki,alS,ajX];rw[a,b];exact⟨rfl,rfl⟩
 rcases D with @⟨ks,vs,xs,H,D,z,ln,C⟩| @⟨ks,vs,xs,H,D,z,ln,C⟩
 .refine bg (N ks xs AK.int (ln.trans z.length)) λa b=>?_;rw[a]at B;rw[b]at h;exact G D z ln C B h
 .refine bg (N ks xs AK.str (ln.trans z.length)) λa b=>?_;rw[a]at B;rw[b]at h;exact G D z ln C B h
theorem Yn(hq:c.quiet=W)(hb:qy o=W)(hl:(ap.endLine == cp.line)=W)(h:bF c f a l σ (λx A=>bF c f o l A (λz j=>∃y d i,x = .str y/\z = .gl d/\gX c d i/\i.all (λp=>uR p.2)=W/\Q (.bool (i.any λp=>uT y p.2)) j) X) X): bF c f (.Compare a [.In] [.Call (.Attribute o "values" ap) [] [] cp] pos) l σ Q X:=λs hR=>by
 refine wpAny_Compare1 (dc (h s hR) (λv I x A rv L B M=>?_) λ_ _ p=>p) rfl;rw[arm_eval_Call,D3 hb];refine wpAny_bind (dc (M I L) (λw T z j rz m N q=>wpAny_bind (ajr ?_)) λ_ _ p=>p.after B);obtain⟨y,d,i,ex,ez,D,Z,q⟩:=(q);subst ex ez;refine LJ rv.str_inv λu H=>?_;subst H;have:=rz.BQ;subst this;refine fS (acJ (u:=u) (x:=y) (P:=jv c f l σ s Q) (E:=dH c f σ s λl' x ain=>l'=l/\X x ain) hq D Z m λh' st=>⟨_,j,.bool _,m.grow st,(B.trans N).trans (aJ.grow st),q⟩) λhT G hw=>?_;refine aM G λod ho S=>?_;have C:alT W o f.env ap cp=pure cp:=by unfold alT;simp[hl]
 unfold methodCall;rw[show amY (([]:List LF).length+([]:List ao4).length) (alj cp (akr [] f.env)) (backToKw cp (aoh [] f.env))=W from rfl];refine wpAny_bind (aas (an0 hT PySem.F.plainAttrs_dict amo PySem.F.type_dict_values ?_ ?_))
 .intro b e;have zq:=ajL e;clear e;subst zq;exact⟨od,ho,S⟩
 refine wpAny_bind (amL C ?_);refine aog (P:=λh=>c.K.In h) rfl (dX.bi _) (evalArgs_nil3 ⟨ik m.g,?_⟩);exact hw
def Dt(c:GC)(f:Fc)(j:Obj)(vs:List LD)(xs:List O)(a it e:LP)(i:Nat)(σ:Sg)(h:VG):Prop :=(σ.σ e=LA/\c.base.get? e=LA/\∃b,IsEnum h e it i b)/\ju c it "list_iterator" #[.ref a,.int i 0] σ h/\jb f.pv a j vs xs σ h
theorem Dt.my(x:Dt c f ob vs xs a it e i σ h):∀b∈[e,it],σ.σ b=LA/\c.base.get? b=LA/\∃o,h.get? b=Y o/\iO o:=λb q=>by
 rcases VM.mp q with rfl|q
 .refine te x.1 λm x2 j x3=>?_;exact⟨m,x2,_,x3,⟨_,rfl⟩,_,rfl,by decide⟩
 .exact x.2.1.my (by decide) b q
theorem aav{x1}(hq:c.quiet=W)(ne:e≠it):nX c f (.Tuple elts x1 pos) e [e,it] (Dt c f { cls:=.type "list",data:=.seq vs.toArray n} vs xs a it e) (λi x H=>∃y,xs[i]?=Y y/\x = .tup [.int i,y]) (λi H=>xs[i]?=LA):=by
 refine⟨λst=>st.my,λ{i l σ s ain h'} m st S _=>?_,λ{i l σ s x P E} m st gx T=>?_,λ{i l σ s P E} m st sp T=>?_⟩
 .refine fS st λh D G=>?_;refine te h λC b1 p e1=>?_;refine bg (Cn (i:=0) m e1 ⟨⟨_,rfl⟩,_,rfl,by decide⟩ C S) λx y=>?_;exact⟨⟨x,b1,p,y⟩,D.keep (by decide) m S,G.keep m S⟩
 .refine aM gx λy gy B=>?_;subst B;have io:∀b∈[e,it],∃o,s.heap.get? b=Y o/\iO o:=λb q=>(st.my b q).2.2;refine fS (id st) λh j G=>?_;refine te h λC b1 p e1=>?_;refine k7 j λi1 D o N d1 I=>?_;refine i4 (id G) λ_ _ g r=>?_;refine aM (r.get gy) λv hv rv=>?_;refine amN (i:=i) (items:=vs.toArray) e1 ⟨o,N,d1,I⟩ ⟨_,g,rfl,_,rfl⟩ (by simpa using hv) ne λh' eo hit ht hz M=>?_;have Z:s.heap.objs.size≠e:=ans (VQ e1);refine T _ h' (s.toks+1) λP2 E2 hh=>alU (s:={s with heap:=h',toks:=s.toks+1}) eo λh2 L sb=>?_;have keep:∀b o,b∉[e,it]->s.heap.get? b=Y o->h2.get? b=Y o:=λb o q z=>by
   have q1:b≠e:=λw=>q (by rw[w];simp);have q2:b≠it:=λw=>q (by rw[w];simp);exact(sb.2 b q1).trans (M b o q1 q2 z)
  refine jU hit λoi j1 j2 j3=>?_;refine hh h2 keep ⟨⟨C,b1,_,L⟩,⟨i1,D,oi,(sb.2 it (aaU ne)).trans j1,j2,j3⟩,G.fp io keep⟩ ?_;exact .tup (vs:=[_,_]) (n:=0) (m.g.wI (LL _)) ((sb.2 _ Z).trans ht) (.cons (.int _ _) (.cons (rv.go (Go.fp io keep)) .nil))
 .refine fS (id st) λh j A=>?_;refine te h λC b1 p e1=>?_;refine k7 j λi1 D o N d1 I=>?_;refine i4 A λ_ _ g r=>?_;refine am1 (i:=i) (items:=vs.toArray) (m.g.hand hq) e1 ⟨o,N,d1,I⟩ ⟨_,g,rfl,_,rfl⟩ (by
   rw[VS]at sp;simp;rw[r.length];exact sp) λh' eb=>T h' s.toks λb o q z=>eb b o (λw=>q (by rw[w];simp)) z
theorem ahM{Z:O->Sg->Prop}{K:List O->Sg->Prop}(h:bF c f e l σ Z X)(k:∀a x,Z x a->K [x] a):jy c f [e] l σ K X:=j4.mono h (λx b q=>k b x q) λ_ _ z=>z
def xH(x:O)(i:Nat)(y:O)(H:List MO):Prop:=∃xs z,listOf H x=Y xs/\xs[i]?=Y z/\y = .tup [.int i,z]
def xI(x:O)(i:Nat)(H:List MO):Prop:=∃xs,listOf H x=Y xs/\xs[i]?=LA
theorem u4:listOf H (.ref k)=Y xs↔H[k]?=Y (.lst xs):=by
 show H[k]?.bind mC=Y xs↔_;cases H[k]? with
 |none=>exact⟨λh=>(by exact bR h),λh=>(by exact bR h)⟩
 |some m=>exact⟨λh=>congrArg Y (QZ h),λh=>congrArg mC (LC h)⟩
theorem Vh(k:Nat):xH (.ref k)=λi x H=>∃xs y,H[k]?=Y (.lst xs)/\xs[i]?=Y y/\x = .tup [.int i,y]:=by
 funext i x H
 unfold xH;simp only[u4]
theorem Vj(k:Nat):xI (.ref k)=λi H=>∃xs,H[k]?=Y (.lst xs)/\xs[i]?=LA:=by
 funext i H
 unfold xI;simp only[u4]
theorem Vg(xs:List O):xH (.lst xs)=λi x H=>∃y,xs[i]?=Y y/\x = .tup [.int i,y]:=by
 funext i x H
 unfold xH listOf;simp
theorem Vi(xs:List O):xI (.lst xs)=λi H=>xs[i]?=LA:=by
 funext i H
 unfold xI listOf;simp
theorem Vq{QI:(Nat->bj)->(Nat->List MO->Prop)->Sg->Prop}(hq:c.quiet=W)(hn:noStar [e]=W)(h:bF c f (.Name x np) l σ (λy C=>y = .ty "enumerate" /\ bF c f e l C (λz j=>(∃xs,listOf j.H z=Y xs)/\QI (xH z) (xI z) j) X) X): AH c f (.Tuple elts x1 tpos) (.Call (.Name x np) [e] [] pos) l σ QI X:=λs hR =>
 ak5 (dc (h s hR) (λv E y C r L D ⟨ey,M⟩=>by
  subst ey;cases r.Jv;refine VL (Eh (r:=[]) (dX.ty "enumerate") hn (s:=E) (ahM (K:=λxs j=>∀vs i,R c f l j i->aJ f.P f.pv C E.heap j i.heap->bh (j.V f.pv) i.heap vs xs->wpAny (LS c.prog c.w) f.A (call (.type "enumerate") vs) _ _ i) M λj z q vs i m G rl=>?_) L) (λ_ _ p=>p) λ_ _ p=>p.after D;refine bg q λI q=>?_;refine LJ I λxs S=>?_;refine aM rl.s8 λw B a=>?_;subst B;refine ia (qv m a S) λla us n B g rs=>?_;subst B;refine call_enumerate_list ⟨_,g,rfl,_,rfl⟩ λh' en it sz k=>?_;have R3:R c f l j {i with heap:=h'}:=m.grow k;have S3:aJ f.P f.pv σ s.heap j h':=(D.trans G).trans (aJ.grow k);refine wpAny_pyIter_enum (s:={i with heap:=h'}) en ?_;refine jU it λoi j1 j2 j3=>?_;have fr:∀b∈[i.heap.objs.size+1,i.heap.objs.size],lp f.P σ s.heap b:=λb z=>lp.of (D.trans G) (by
   rcases VM.mp z with rfl|z
   .exact BP (ajq _)
   .rw[aeq.mp z];exact BP (LL _))
  have se:(j.σ (i.heap.objs.size+1)=LA/\c.base.get? (i.heap.objs.size+1)=LA/\∃T,IsEnum h' (i.heap.objs.size+1) i.heap.objs.size 0 T):=⟨m.g.sX (ajq _),m.g.mS (ajq _),_,en⟩;have si:ju c i.heap.objs.size "list_iterator" #[.ref la,.int ((0:Nat):Int) 0] j h':=⟨m.g.sX (LL _),m.g.mS (LL _),oi,j1,j2,j3⟩;cases z with
  |ref k =>
   refine bg a.nR λN lt=>?_;cases N;refine⟨_,_,_,_,_,j,rfl,R3,S3,aau (k:=k) hq (aow _),fr,⟨se,si,lt,?_⟩,?_⟩
   .rfl
   .rw[Vh,Vj]at q;exact q
  |lst ys =>
   cases S;refine ph a.lst_inv λla' us' n' N nt g' Z=>?_;cases N;refine⟨_,_,_,_,_,j,rfl,R3,S3,aav (vs:=us') (xs:=xs) (n:=n') hq (aow _),fr,⟨se,si,sW rfl,nt,k _ _ g',Z.go (Go.stays k)⟩,?_⟩;rw[Vg,Vi]at q;exact q
  |_=>cases S) λ_ _ p=>p)
end
def pH(c:GC)(C D:LP)(b:Bool):Prop :=(∃p:XP,c.base.get? C=Y (p.o C)/\(aaS C::p.bm).contains (.ref D)=b)/\∃p:XP,c.base.get? D=Y (p.o D)/\p.bm.contains (.type "BaseException")=W
inductive Ds (c:GC) (f:Fc) (C:LP) (y:Str) (b:Bool):Prop
 |mk (D:LP) (yd:(y == ("__debug__" : Str))=LB) (yg:sQ f y) (hm:c.mg y=Y (.ref D)) (m:pH c C D b)
def JN(c:GC)(f:Fc)(Q:QF)(x:XV)(l:Lc)(σ:Sg)(n:Str)(b:List ah7):Prop :=f.env.kindOf n=Y .local/\∀e,d6 c.loud (f.mark e) (ajV b f.env) (cy n (.exc x.C x.fs) l) σ (λk _ a=>Q k [] a) (λ_ _ _=>False)
inductive Dr (c:GC) (f:Fc) (C:LP) (T:Str->List ah7->Prop) (N:Prop):ExceptHandler->Prop
 |hit {y:Str}{yp:Pos}{n:Str}{aiP:ah7}{pF:List ah7}{pos:Pos}:Ds c f C y W->T n (aiP::pF)->Dr c f C T N (alO (Y (.Name y yp)) (Y n) (aiP::pF) pos)
 |miss {y:Str}{yp:Pos}{n:Str}{aiP:ah7}{pF:List ah7}{pos:Pos}:Ds c f C y LB->N->Dr c f C T N (alO (Y (.Name y yp)) (Y n) (aiP::pF) pos)
def Catch(c:GC)(f:Fc)(Q:QF)(x:XV)(l:Lc)(σ:Sg):List ExceptHandler->Prop
 | []=>False
 |h::rest=>Dr c f x.C (JN c f Q x l σ) (Catch c f Q x l σ rest) h
section
variable{c:GC}{f:Fc}{l:Lc}{σ ain:Sg}{s s':LG}{Q:QF}{X:Lc->QX}
theorem ll.go(r:ll V h fl k)(g:Go V h V' h'):ll V' h' fl k:=by
 cases fl<;>cases k<;>first|exact r|exact r.elim|exact Rel.go g r
theorem dZ.obj(T:dZ c fl V h (.ref a) x):∃b,h.get? a=Y b/\b.cls = .ref x.C:=T.el λ_ b _ _ _ e1 e2 _ _ _ _ _ _ _ _=>⟨b,e1,e2⟩
theorem dZ.rel(T:dZ c fl V h (.ref a) x):Rel V h (.ref a) (.exc x.C x.fs):=T.el λ_ _ _ _ _ b e i j _ m p w y _=>.exc p w b e (by unfold amP;rw[j]) i m y
section
variable{a:LP}{x:XV}{P:am7->LG->Prop}{E:LD->LG->Prop}
def JM(c:GC)(f:Fc)(Q:QF)(σ:Sg)(b:VG)(P:am7->LG->Prop):Prop:=∀fl s' k ain,ll (ain.V f.pv) s'.heap fl k->R c f [] ain s'->aJ f.P f.pv σ b ain s'.heap->Q k [] ain->P fl s'
theorem ZJ{G:akG->LG->Prop}(z:JN c f Q x l σ n (aiP::pF))(H:R c f l σ s)(T:dZ c f.fl (σ.V f.pv) s.heap (.ref a) x)(tr:fV c.base a (.ref x.C) .none s.heap)
  (j:JM c f Q σ s.heap P) (hr:∀fl s',wpAny (LS c.prog c.w) f.A (do bindName f.env n .none;anb f.env n pos) (λ_ m=>P fl m) E s'->G (.ok fl) s') :
  ajz (LS c.prog c.w) (f.A.mark (Y (.ref a))) (.handlers (.ref a) [.ExceptHandler LA (Y n) (aiP::pF) pos] f.env) G s:=by
 have nl:=z.1;refine codeAny_handlers_suite_as ?_;refine BM (c:=c.loud) (f:=f.mark (.ref a)) (x:=x) (s:=s) (H.mark (.ref a)) (T.el λ_ _ _ _ _ e1 e2 e3 e4 e5 e6 e7 e8 e9 y=>⟨_,_,_,_,_,_,rfl,e1,e2,e3,e4,e5,e6,e7,e8,e9,y⟩) tr (.inl rfl) λh' L Z _ S1=>?_;refine Ad (c:=c.loud) (f:=f.mark (.ref a)) L Z.rel (.inl nl) λs2 M S2=>?_;refine nG (z.2 (.ref a) s2 M) (λfl s3 k l3 i r3 N S3 q3=>hr _ _ ?_) λe s3 p=>p.elim λ_ _ _ _ _ _ z=>z.elim;have S:=(S1.trans S2).trans S3;have h:R c f l3 i s3:=H.unmark N;refine LJ h.ns λmm hn=>?_;refine wpAny_nameGoes nl hn (by rw[h.kind];rfl) λh4 m4 I sb=>?_;refine ia (id I) λo4 es4 ep4 D B _=>?_;exact j _ _ k i (r3.go (Go.sameBut sb (.inr (h.own _ (.inl rfl))))) ((h.qC (l':=[]) (.inl rfl) sb D (λvs q=>by rw[B]at q;exact lz q) ⟨_,I⟩ (λb q=>LJ (h.iS b q) λv x=>⟨v,x.sameBut sb λz=>(VI.mp h.nd).1 (z▸q)⟩) λ_ _ e=>by exact bR e).tok _) (S.trans (aJ.qC sb (.inl rfl))) q3
theorem MP(t:Ds c f x.C y b)(e:R c f l σ s)(T:dZ c f.fl (σ.V f.pv) s.heap (.ref a) x)(k0:b=LB->wpAny (LS c.prog c.w) f.A (handleBy (.ref a) f.env rest) P E s)
  (H:b=W->∀p:akG->LG->Prop,(∀fl s',wpAny (LS c.prog c.w) f.A (do bindName f.env n .none;anb f.env n pos) (λ_ j=>P fl j) E s'->p (.ok fl) s')->ajz (LS c.prog c.w) (f.A.mark (Y (.ref a))) (.handlers (.ref a) [.ExceptHandler LA (Y n) (aiP::pF) pos] f.env) p s) :
  wpAny (LS c.prog c.w) f.A (handleBy (.ref a) f.env (.ExceptHandler (Y (.Name y yp)) (Y n) (aiP::pF) pos::rest)) P E s:=by
 induction t with
 |mk D I L hm m =>
  refine vd m λi S G z=>?_;refine aM i λN B hb=>?_;refine wpAny_handleBy_cons (codeAny_handlers_test ?_) (by intro q;cases q);refine ali e.kind L (anV (mg:=c.mg) (by rw[e.glob];exact c.top.g.keeps e.g.stays) hm ?_) I;refine aM T.obj λM e1 e2=>?_;refine ah4 (h:=s.heap) (g:=s.gens) (d:=s.drawn) (t:=s.toks) (os:=s.os) (e.g.stays _ _ B) (e.g.stays _ _ G) e1 e2 z ?_;rw[hb];induction b using cB with
  |false=>exact k0 rfl
  |true=>exact H rfl _ λ_ _ h=>h
theorem ZK(e:R c f l σ s)(T:dZ c f.fl (σ.V f.pv) s.heap (.ref a) x)(m:fV c.base a (.ref x.C) .none s.heap)(b:JM c f Q σ s.heap P):Catch c f Q x l σ hs->wpAny (LS c.prog c.w) f.A (handleBy (.ref a) f.env hs) P E s:=by
 induction hs with
 |nil=>exactλK=>K.elim
 |cons h rest j =>
  intro K;cases K with
  |hit t z=>exact MP t e T (λq=>by exact qK q) λ_ p i=>ZJ z e T m b i
  |miss t z=>exact MP t e T (λ_=>j z) λq=>by exact bL q
end
theorem Xy(h:d6 c f (ajV body f.env) l σ (λk b i=>Q k b i) λb x i=>Catch c f Q x b i (h₀::hs)):d6 c f (ak4 (.Try body (h₀::hs) [] [] pos) f.env) l σ Q X:=λs I=>by
 refine wpAny_Try_except (nG (h s I) (λfl w k b i r m j q=>?_) λe w p=>p.elim λx b i T m j K=>?_)
 .cases fl<;>first|exact⟨k,b,i,r,m,j,q⟩|exact wpAny_execs_nil ⟨k,b,i,r,m,j,q⟩
 .refine Ir m T λh' a G A D L S2=>?_;subst G;refine BM (s:={w with heap:=h'}) A D L (.inl rfl) λH B E y S3=>?_;exact ZK (s:={w with heap:=H}) B E y (λfl s' k ain r z C q=>⟨k,[],ain,r,z,((j.trans S2).trans S3).trans C,q⟩) K
end
def Ec(M:al3)(A:adh)(E:LD->LG->Prop)(use:Option (LD->Sem Unit))(Q:LD->LG->Prop)(acc:LD)(cenv:Env):akG->LG->Prop
 | .ok _,s'=>(match use with
  |none=>∃m,s'.heap.Ns cenv.locals m/\∀h',abi cenv.locals s'.heap h'->Q acc { s' with heap:=h'}
  |some u=>wpAny M A (u acc) (λ_ a=>∃m,a.heap.Ns cenv.locals m/\∀h',abi cenv.locals a.heap h'->Q .none {a with heap:=h'}) E s')
 | .error x,s'=>∃m,s'.heap.Ns cenv.locals m/\∀h',abi cenv.locals s'.heap h'->wpAny M A (passOn "comprehension.variables-let-go" x cenv:Sem LD) (λ_ _=>False) E { s' with heap:=h'}
section
variable{M:al3}{A:adh}{E:LD->LG->Prop}{s:LG}{env:Env}
theorem aaf{B:List (Str×LP)}{use:Option (LD->Sem Unit)}{Q:LD->LG->Prop}(jM:clausesOf e=g::gs)(hs:∀x,aeL g.iter env x=pure x)(G:aoT a env=pure B)(l:a.kind = .function)(w:∀x∈a.names,x.2 = .local->a.names.lookup x.1=Y .local)(D:∀x∈a.names,x.2 ≠ .cell)(h:wpAny M A first (λx N=>wpAny M A (amV x) (λit j=>∀i C,C=j.heap.objs.size+1->i.Ns C (λ_=>LA)->(∀b o,j.heap.get? b=Y o->i.get? b=Y o)->i.get? j.heap.objs.size=Y {cls:=.type "list",data:=.seq [].toArray}-> ajz M A (.compStart e 0 it (.ref j.heap.objs.size) (akF a B C env)) (Ec M A E use Q (.ref j.heap.objs.size) (akF a B C env)) {j with heap:=i}) E N) E s): wpAny M A (comprehension e a env pos (newList []) LB first use) Q E s:=by
 unfold comprehension;rw[G,jM];refine wpAny_bind (VL h (λx N i=>wpAny_bind (ajr (wpAny_bind (amL (hs x) (wpAny_bind (aas (VL i (λit j Z =>
  wpAny_standIf (wpAny_bind (akw (wpAny_bind (wpAny_pure (wpAny_bind (wpAny_newFunctionEnv D (λy hy=>by exact fj hy) (λi hn L=>?_) l))))))) λ_ _ h'=>h'))))))) λ_ _ h'=>h')
 dsimp only at hn L ⊢;generalize hH2:j.heap.push { cls:=.type "list",dict:=LA,data:=.seq ([]:List LD).toArray}=z at hn L ⊢;have hC:z.objs.size=j.heap.objs.size+1:=by rw[←hH2,aky]
 have S:∀b o,z.get? b=Y o->i.get? b=Y o:=λb o e=>L.extBut b o (WA (VQ e)) (UB _ e);have h4:=Z i z.objs.size hC hn (λb o e=>S b o (hH2▸UB _ e)) (S _ _ (hH2▸VU _ rfl));have X:∀x∈(a.names.filter λx=>(x.2 == .local||x.2 == .cell)&&x.1 != (".0" : Str)).reverse,x.2 = .local->Env.kindOf (akF a B z.objs.size env) x.1=Y .local:=λx hx T =>
  anc (w x (List.mem_filter.mp (amf.mp hx)).1 T)
 have hv':∀x∈(a.names.filter λx=>(x.2 == .local||x.2 == .cell)&&x.1 != (".0" : Str)).reverse.drop 1++(a.names.filter λx=>(x.2 == .local||x.2 == .cell)&&x.1 != (".0" : Str)).reverse.take 1,
   x.2 = .local->Env.kindOf (akF a B z.objs.size env) x.1=Y .local:=λx hx T =>
  (akm.mp hx).elim (λq=>X x (List.mem_of_mem_drop q) T) λq=>X x (List.mem_of_mem_take q) T
 refine aas (wpAny_bind (wpAny_attempt (aas (wpAny_run (aj6 h4 λr s' H=>?_)))));cases r with
 |ok f =>
  induction use using cO with
  |none =>
   refine aM H λm hm H=>?_;exact wpAny_bind (aas (amq (cenv:=akF a B z.objs.size env) l _ s' m X hm λh' m' _ p=>wpAny_pure (H h' p)))
  |some u =>
   refine wpAny_bind (al6 (wpAny_bind (aas (VL H (λ_ s'' I=>?_) λ_ _ h'=>h'))));refine aM I λm hm I=>?_;exact wpAny_bind (amq (cenv:=akF a B z.objs.size env) l _ s'' m hv' hm λh' m' _ p=>wpAny_pure (I h' p))
 |error x =>
  refine aM H λm hm H=>?_;exact wpAny_bind (aas (amq (cenv:=akF a B z.objs.size env) l _ s' m X hm λh' m' _ p=>VL (H h' p) (λ_ _ f=>f.elim) λ_ _ y=>y))
end
def qS(c:GC)(f:Fc)(l:Lc)(σ:Sg)(X:QX)(K:Bool->Sg->Prop):List LF->Prop
 | []=>K W σ
 | [t]=>iR c f t l σ K X
 |_=>False
def Cp(c:GC)(f:Fc)(x:Str)(j:LF)(ifs:List LF)(h:Lc)(p:Nat)(a:Nat->bj)(e:Nat->List MO->Prop)(Q:List O->Sg->Prop)(X:QX):Nat->Nat->List O->Sg->Prop
 |0,_,_,_=>False
 |n+1,i,acc,σ=>(∃y,a i y σ.H/\qS c f (cy x y h) σ X (λb l=>cond b (bF c f j (cy x y h) l (λz m=>∃acc,m.H[p]?=Y (.lst acc)/\acc.length<=WE/\∀w:Sg,w.H=m.H.set p (.lst (acc++[z]))->Cp c f x j ifs h p a e Q X n (i+1) (acc++[z]) w) X)
   (Cp c f x j ifs h p a e Q X n (i+1) acc l)) ifs)∨(e i σ.H/\Q acc σ)
section
variable{c:GC}{f:Fc}{l:Lc}{σ ain:Sg}{s s':LG}{X:QX}
theorem R.sub(a:R c f l σ s)(k:∀x y,l'.lookup x=Y y->l.lookup x=Y y):R c f l' σ s :=⟨a.g,a.ns,λx y e=>a.vars x y (k x y e),a.iS,a.own,a.nd,a.kind,a.glob,a.lW,a.top⟩
theorem noted_here{b:Lc->QX}{N:LD->LG->Prop}(P:dH c f σ s b e s')(k:∀a x l' ain h',e = .ref a->R c f l' ain {s' with heap:=h'}->dZ c f.fl (ain.V f.pv) h' e x->fV c.base a (.ref x.C) f.fl h'->aJ f.P f.pv σ s.heap ain h'->b l' x ain->N e {s' with heap:=h'}): ao3 (LS c.prog c.w) f.A f.env N e s':=by
 obtain⟨x,l',ain,T,h,j,q⟩:=P;exact Ir h T λh' a p i m y S1=>k a x l' ain h' p i m y (j.trans S1) q
noncomputable def Eb(a:LF)(env:Env)(acc:LD)(d:Code)(b:Bool):Sem Fin:=if b=W then((eval a env >>= λx=>call (.builtin "list.append") [acc,x] >>= λ_=>pure ()) >>= λ_=>again d) else again d
def MC(a:LF)(ifs:List LF)(env:Env)(acc:LD)(d:Code):Sem Fin :=(forIn ifs W λc r=>if r=W then do let ok ←isTrue c env (eval c env);pure (alu ok) else pure (alu r)) >>= Eb a env acc d
def Zx(b a:LF)(ifs:List LF)(it acc:LD)(env:Env)(d:Code):Option LD->Sem Fin
 |none=>pure (.done .next)
 |some v=>akN a it v >>= λ_=>akj a env v >>= λ_=>MC b ifs env acc d
theorem adE{b:akG->LG->Prop}(hq:d.quiet=W)(I:Nat->LG->Prop)(a:∀n s (P:Fin->LG->Prop) (E:LD->LG->Prop),(∀f s',b (.ok f) s'->P (.done f) s')->(∀m s',m < n->I m s'->P (.again d) s')->(∀e s',b (.error e) s'->E e s')->I n s->wpAny M (A.under d) (M.den d) P E s)(n:Nat)(h:I n s):ajz M A d b s:=codeAny_loop hq I (λn s h=>a n s _ _ (λ_ _ h=>h) (λm _ lt h=>⟨rfl,m,lt,h⟩) (λ_ _ h=>h) h) n h
theorem aaa{N:List O->Sg->Prop}{P:Fin->LG->Prop}{E:LD->LG->Prop}(hb:cond b (bF c f elt lx σ (λz h=>∃acc,h.H[kA]?=Y (.lst acc)/\acc.length<=WE/\∀a:Sg,a.H=h.H.set kA (.lst (acc++[z]))->N (acc++[z]) a) X) (N acc σ))(j:R c f lx σ s)(lt:kA < σ.H.length)(I:σ.μ kA=D)(m:∀acc a s',N acc a->R c f lx a s'->aJ f.P f.pv σ s.heap a s'.heap->P (.again d) s')(G:∀e s',dH c f σ s (λl' x ain=>l'=lx/\X x ain) e s'->E e s'): wpAny (LS c.prog c.w) f.A (Eb elt f.env (.ref D) d b) P E s:=by
 induction b using cB with
 |false=>exact wpAny_pure (m _ _ _ hb j .refl)
 |true =>
  refine wpAny_bind (wpAny_bind (dc (hb s j) (λZ i z h S y S5 q=>q.elim λacc q=>?_) λe i p=>G _ _ p));have M:Rel (h.V f.pv) i.heap (.ref D) (.ref kA):=by rw[←I,←S5.mu kA lt];exact .ref (LR lt S5.n)
  exact wpAny_bind (dc (JL (Q:=λ_ a=>N (acc++[z]) a) (X:=λ_ _=>False) q.1 q.2.1 (λa e=>q.2.2 a e) [.ref D,Z] i y (.cons M (.cons S .nil)))
   (λ_ T u C _ B S6 L=>wpAny_pure (wpAny_pure (m _ _ _ L B (S5.trans S6)))) λe T p=>p.elim λ_ _ _ _ _ _ q=>q.2.elim)
theorem aac{K:Bool->Sg->Prop}{P:Fin->LG->Prop}{E:LD->LG->Prop}(w:qS c f lx σ X K ifs)(i:R c f lx σ s)(j:∀b a h,R c f lx a h->aJ f.P f.pv σ s.heap a h.heap->K b a->wpAny (LS c.prog c.w) f.A (Eb elt f.env D d b) P E h)(p:∀e s',dH c f σ s (λl' x ain=>l'=lx/\X x ain) e s'->E e s'): wpAny (LS c.prog c.w) f.A (MC elt ifs f.env D d) P E s:=by
 induction ifs using cL with
 |nil=>exact wpAny_bind (wpAny_pure (j W σ s i .refl w))
 |cons t r =>
  induction r using cL with
  |cons _ _=>exact w.elim
  |nil=>exact wpAny_bind (wpAny_bind (wpAny_bind (j8 (w s i) (λb y a m S4 hb=>wpAny_pure (wpAny_pure (j b a y m S4 hb))) p)))
inductive xF (c:GC) (f:Fc) (x:Str) (elt:LF) (ifs:List LF) (aix:Lc) (kA:Nat) (D:LP) (St:Nat->Sg->VG->Prop) (give:Nat->bj) (stop:Nat->List MO->Prop) (Q:List O->Sg->Prop) (Tr:Sg->VG->Prop) (X:QX) (m:Nat) (aiq:LG):Prop
 |mk (i:Nat) (acc:List O) (ain:Sg) (R':R c f aix ain aiq) (st:St i ain aiq.heap) (tr:Tr ain aiq.heap) (lt:kA < ain.H.length) (mu:ain.μ kA=D) (w:Cp c f x elt ifs aix kA give stop Q X m i acc ain)
variable{x:Str}{elt:LF}{ifs:List LF}{aix:Lc}{kA:Nat}{D it:LP}{fp:List LP}{St:Nat->Sg->VG->Prop}{give:Nat->bj}{stop:Nat->List MO->Prop}{Q:List O->Sg->Prop}{Tr:Sg->VG->Prop}
theorem xF.step{m:Nat}{a:LG}{G:Prop}(z:xF c f x elt ifs aix kA D St give stop Q Tr X m a)(B:∀i acc ain m',R c f aix ain a->St i ain a.heap->Tr ain a.heap->kA < ain.H.length->ain.μ kA=D->m' < m->∀y,give i y ain.H->qS c f (cy x y aix) ain X (λb e=>cond b (bF c f elt (cy x y aix) e (λz h=>∃acc,h.H[kA]?=Y (.lst acc)/\acc.length<=WE/\∀A:Sg,A.H=h.H.set kA (.lst (acc++[z]))->Cp c f x elt ifs aix kA give stop Q X m' (i+1) (acc++[z]) A) X) (Cp c f x elt ifs aix kA give stop Q X m' (i+1) acc e)) ifs->G)(k2:∀i acc ain,R c f aix ain a->St i ain a.heap->Tr ain a.heap->stop i ain.H->Q acc ain->G):G:=by
 induction z with
 |mk i acc ain j st p lt C w =>
  induction m using cN with
  |zero=>exact w.elim
  |succ m=>exact w.elim (λz=>z.elim λy z=>B i acc ain m j st p lt C (ajj m) y z.1 z.2) λz=>k2 i acc ain j st p z.1 z.2
theorem aag{px:Pos}{d:Code}{m:Nat}{P:Fin->LG->Prop}{E:LD->LG->Prop}{T:akG->LG->Prop}(hq:c.quiet=W)(j:nX c f (.Name x px) it fp St give stop)(hx:pR f x)(hl:aix.lookup x=LA)(tS:∀{σ h ain h'},Tr σ h->aJ f.P f.pv σ h ain h'->Tr ain h')(tF:∀{σ h h'},Tr σ h->(∀b o,b∉fp->h.get? b=Y o->h'.get? b=Y o)->Tr σ h')(fin:∀acc ain s',Q acc ain->R c f aix ain s'->Tr ain s'.heap->T (.ok .next) s')(err:∀a y l' ain s',X y ain->(∀z u,aix.lookup z=Y u->l'.lookup z=Y u)->R c f l' ain s'->dZ c f.fl (ain.V f.pv) s'.heap (.ref a) y->fV c.base a (.ref y.C) f.fl s'.heap->Tr ain s'.heap->T (.error (.ref a)) s')(hd:∀f s',T (.ok f) s'->P (.done f) s')(ha:∀m' s',m' < m->xF c f x elt ifs aix kA D St give stop Q Tr X m' s'->P (.again d) s')(he:∀e s',T (.error e) s'->E e s')(z:xF c f x elt ifs aix kA D St give stop Q Tr X m s): wpAny (LS c.prog c.w) f.A (aoM (.ref it) >>= Zx elt (.Name x px) ifs (.ref it) (.ref D) f.env d) P (ao3 (LS c.prog c.w) f.A f.env E) s:=by
 refine wpAny_bind (z.step (λi acc ain m I B H lt' M lm y gy w=>?_) λi acc ain I B H sp q=>j.fin I B sp λh' t k=>wpAny_pure (hd _ _ (fin acc ain _ q (I.fp (j.there B) k) (tF H k))));refine j.item I B gy λv h' t go=>wpAny_bind (go _ _ λh'' k st2 rv=>wpAny_bind (assign_Name (Ad (I.fp (j.there B) k) rv hx λs2 Z S3=>?_)));have st3:=j.keep (I.fp (j.there B) k) st2 S3 Z.g.stays;have t3:=tS (tF H k) S3;have sub:∀z u,aix.lookup z=Y u->(cy x y aix).lookup z=Y u:=λz u e=>by
  rw[mA];by_cases q:z=x
  .rw[q,hl]at e;exact bR e
  .rw[QE q];exact e
 have er:∀{G L},aJ f.P f.pv ain s2.heap G L.heap->∀e s',dH c f G L (λl' w ain=>l'=cy x y aix/\X w ain) e s'->ao3 (LS c.prog c.w) f.A f.env E e s':=λS e s' p =>
  noted_here p λa y' l' ajg h' ea R1 T1 tr1 S1 q1=>by subst ea;exact he _ _ (err a y' l' ajg _ q1.2 (λz u e=>by rw[q1.1];exact sub z u e) R1 T1 tr1 (tS t3 (S.trans S1)))
 exact aac w Z (λb G s3 R4 S4 hb=>aaa (N:=λacc τ=>Cp c f x elt ifs aix kA give stop Q X m (i+1) acc τ) hb R4 (LR lt' S4.n) ((S4.mu kA lt').trans M)
  (λacc τ s' q R6 S6=>ha _ _ lm ⟨i+1,acc,τ,R6.sub sub,j.keep Z st3 (S4.trans S6) R6.g.stays,tS t3 (S4.trans S6),LR lt' (S4.trans S6).n,((S4.trans S6).mu kA lt').trans M,q⟩)
  (er S4)) (er .refl)
theorem aad{e:akG->LG->Prop}(hq:c.quiet=W)(B:nX c f (.Name x px) it fp St give stop)(S:pR f x)(N:aix.lookup x=LA)(Z:∀{σ h ain h'},Tr σ h->aJ f.P f.pv σ h ain h'->Tr ain h')(tF:∀{σ h h'},Tr σ h->(∀b o,b∉fp->h.get? b=Y o->h'.get? b=Y o)->Tr σ h')(p:∀acc ain s',Q acc ain->R c f aix ain s'->Tr ain s'.heap->e (.ok .next) s')(j:∀a y l' ain s',X y ain->(∀z u,aix.lookup z=Y u->l'.lookup z=Y u)->R c f l' ain s'->dZ c f.fl (ain.V f.pv) s'.heap (.ref a) y->fV c.base a (.ref y.C) f.fl s'.heap->Tr ain s'.heap->e (.error (.ref a)) s')(n i:Nat)(acc:List O)(I:R c f aix σ s)(st:St i σ s.heap)(tr:Tr σ s.heap)(lt:kA < σ.H.length)(T:σ.μ kA=D)(w:Cp c f x elt ifs aix kA give stop Q X n i acc σ): ajz (LS c.prog c.w) f.A (.compLoop (.ListComp elt [⟨.Name x px,iter,ifs,0⟩] scope pos) 0 (.ref it) (.ref D) f.env) e s:=adE rfl (xF c f x elt ifs aix kA D St give stop Q Tr X) (λm G P E M L he z=>wpAny_noted (m:=compTurn (.ListComp elt [⟨.Name x px,iter,ifs,0⟩] scope pos) 0 (.ref it) (.ref D) f.env) (wpAny_bind (ajr (aag hq B S N Z tF p j M L he z)))) n ⟨i,acc,σ,I,st,tr,lt,T,w⟩
end
noncomputable def frees:List (Str×aaW)->List Str
 | []=>[]
 |(n,k)::r=>if k == .free then n::frees r else frees r
noncomputable def pS(g:Str->LP):List Str->List (Str×LP)->List (Str×LP)
 | [],acc=>acc
 |n::r,acc=>pS g r ((n,g n)::acc)
def hO(a:List Str)(env:Env):List (Str×LP):=pS (λn=>(env.cells.lookup n).getD 0) a []
theorem ZY(h:∀n∈frees scope.names,∃a,env.cells.lookup n=Y a):aoT scope env=pure (hO (frees scope.names) env):=by
 unfold aoT hO;have b:∀(l:List (Str×aaW)) (acc:List (Str×LP)),(∀n∈frees l,∃a,env.cells.lookup n=Y a)->(forIn l acc (λx r=>do
   if x.2 == .free then do
    let y ←cellOf env x.1
    pure (alu ((x.1,y)::r))
   else pure (alu r)):Sem (List (Str×LP)))=pure (pS (λn=>(env.cells.lookup n).getD 0) (frees l) acc):=by
  intro l;induction l with
  |nil=>intro acc _;rfl
  |cons p r i =>
   intro acc h;obtain⟨n,k⟩:=p;rw[List.forIn_cons];dsimp only;by_cases q:(k == aju)=W
   .have e:frees ((n,k)::r)=n::frees r:=VD q;rw[e]at h ⊢;refine LJ (h n (.head _)) λa f=>?_;have w:cellOf env n=pure a:=by unfold cellOf;rw[f]
    rw[VD q,w,pure_bind,pure_bind];dsimp only;rw[i _ λm hm=>h m (.tail _ hm)];show _=pure (pS (λn=>(env.cells.lookup n).getD 0) (frees r) ((n,(env.cells.lookup n).getD 0)::acc));rw[f];rfl
   .have e:frees ((n,k)::r)=frees r:=QE q;rw[e]at h ⊢;rw[QE q,pure_bind];exact i acc h
 exact(congrArg (λt:Sem (List (Str×LP))=>t >>= λj=>pure j) (b scope.names [] h)).trans (pure_bind _ _)
theorem ZR{g:Str->LP}:∀{f:List Str}{acc:List (Str×LP)}{p:Str×LP},p∈pS g f acc↔(p∈acc∨(p.1∈f/\p.2=g p.1)):=by
 intro f;induction f with
 |nil =>
  exact@λacc p=>by simp[pS]
 |cons n r i =>
  exact@λacc p=>by
   show p∈pS g r ((n,g n)::acc)↔_;rw[i];constructor
   .rintro (h|h)
    .rcases VM.mp h with rfl|h
     .exact .inr ⟨.head _,rfl⟩
     .exact .inl h
    .exact .inr ⟨.tail _ h.1,h.2⟩
   .rintro (h|⟨h,e⟩)
    .exact .inl (.tail _ h)
    .rcases VM.mp h with h|h
     .exact .inl (by rw[VM];left;obtain⟨a,b⟩:=p;dsimp only at h e;subst h e;rfl)
     .exact .inr ⟨h,e⟩
theorem QL{f:Type}{g:Str->f}:∀{l:List (Str×f)}{n:Str},(∀p∈l,p.2=g p.1)->(∃p∈l,p.1=n)->l.lookup n=Y (g n)
 | [],_,_,⟨p,m,_⟩=>by exact fj m
 |q::r,n,h,⟨p,m,e⟩=>by
  obtain⟨a,b⟩:=q;rw[VC];by_cases z:n=a
  .subst z;simp only[abk];rw[←h (n,b) (.head _)]
  .rw[VF.mpr z];refine QL (λp i=>h p (.tail _ i)) ⟨p,?_,e⟩;rcases VM.mp m with rfl|m
   .exact absurd e.symm z
   .exact m
theorem ZQ{g:Str->LP}:∀{a:List Str}{acc:List (Str×LP)},(pS g a acc).map (·.1)=a.reverse++acc.map (·.1):=by
 intro a;induction a with
 |nil =>
  exact@λacc=>rfl
 |cons n r b =>
  exact@λacc=>by show(pS g r ((n,g n)::acc)).map (·.1)=_;rw[b];simp
theorem H6{env:Env}(f:env.scope.kind = .function){x:Str}(he:env.kindOf x=Y .cell):∀{a:List (Str×aaW)},a.lookup x=Y .free ->
  (a.map λ(n,k)=>if (k == aju&&env.scope.kind == .function&&env.kindOf n == Y .cell) then(n,akd) else(n,k)).lookup x=Y .cell
 | [],h=>by simp at h
 |(n,k)::r,h=>by
  have i:=@H6 env f x he r;show apz x ((if (k == aju&&env.scope.kind == .function&&env.kindOf n == Y .cell)=W then(n,akd) else(n,k))::_)=_;cases b:x == n with
  |true =>
   simp only[VC,b]at h;have j:=LC h;clear h;subst j;have:n=x:=(ajR.mp b).symm;subst this;simp[f,he]
  |false =>
   simp only[VC,b]at h;by_cases e:(k == aju&&env.scope.kind == .function&&env.kindOf n == Y .cell)=W
   .rw[VD e];simp only[VC,b];exact i h
   .rw[QE e];simp only[VC,b];exact i h
noncomputable def jm(a:List Str)(l:Lc):Lc:=a.filterMap λn=>(l.lookup n).map λv=>(n,v)
theorem RS:∀{f:List Str},(jm f l).lookup z=Y u->z∈f/\l.lookup z=Y u:=by
 intro f;induction f with
 |nil =>
  exact@λh=>by simp[jm]at h
 |cons n r i =>
  exact@λh=>by
   unfold jm at h;rw[akK]at h;cases q:l.lookup n with
   |none=>rw[q]at h;refine bg (i h) λa b=>?_;exact⟨.tail _ a,b⟩
   |some v =>
    rw[q]at h;simp only[aoU,VC]at h;by_cases e:z=n
    .subst e;simp at h;subst h;exact⟨.head _,q⟩
    .rw[VF.mpr e]at h;refine bg (i h) λa b=>?_;exact⟨.tail _ a,b⟩
theorem QM:∀{b:List Str},z∈b->l.lookup z=Y u->(jm b l).lookup z=Y u:=by
 intro b;induction b with
 |nil =>
  exact@λh _=>by exact fj h
 |cons n r a =>
  exact@λh e=>by
   unfold jm;rw[akK];by_cases q:z=n
   .subst q;rw[e];simp[VC]
   .have h':z∈r:=(VM.mp h).resolve_left q;have a:=a h' e;unfold jm at a;cases l.lookup n with
    |none=>exact a
    |some v=>simp only[aoU,VC];rw[VF.mpr q];exact a
def jY(f:Fc)(a:ajB)(C:LP):Fc:=⟨f.A,akF a (hO (frees a.names) f.env) C f.env,f.fr,f.n,λb=>f.pv b∨b=C⟩
def nY(f:Fc)(a:ajB)(l:Lc):Prop:=(frees a.names).Nodup/\∀n∈frees a.names,f.env.kindOf n=Y .cell/\a.names.lookup n=Y .free/\(l.lookup n).isSome=W
section
variable{c:GC}{f:Fc}{l:Lc}{σ ain:Sg}{s s':LG}{X:QX}{scope:ajB}
theorem nY.cell(F:nY f scope l)(e:R c f l σ s):∀n∈frees scope.names,∃a,f.env.cells.lookup n=Y a:=λn i=>by
 refine fS (F.2 n i) λk _ y=>?_;refine LJ (amg.mp y) λy j=>?_;refine aM (e.vars n y j) λv b _=>?_;unfold fD at b;rw[k]at b;refine aM b λa h _=>?_;exact⟨a,h⟩
theorem ye(F:nY f scope l)(i:R c f l σ s){p:Str×LP}:p∈hO (frees scope.names) f.env↔p.1∈frees scope.names/\f.env.cells.lookup p.1=Y p.2:=by
 unfold hO;rw[ZR];constructor
 .rintro (h|⟨h,e⟩)
  .exact fj h
  .refine LJ (F.cell i p.1 h) λa j=>?_;rw[j]at e ⊢;exact⟨h,by rw[e];rfl⟩
 .intro b;refine bg b λh e=>?_
  right;rw[e];exact⟨h,rfl⟩
theorem MT(F:nY f scope l)(b:R c f l σ s)(h:n∈frees scope.names):(hO (frees scope.names) f.env).lookup n=f.env.cells.lookup n:=by
 refine LJ (F.cell b n h) λa e=>?_;rw[QL (g:=λn=>(f.env.cells.lookup n).getD 0) (λp i=>by
  have:=(ye F b).mp i;rw[this.2];rfl) ⟨(n,a),(ye F b).mpr ⟨h,e⟩,rfl⟩,e]
 rfl
theorem yf(F:nY f scope l)(i:R c f l σ s):∀b∈(hO (frees scope.names) f.env).map (·.2),b∈f.env.cells.map (·.2):=λb h=>by
 refine aM (aak.mp h) λp j a=>?_;subst a;refine bg ((ye F i).mp j) λ_ e=>?_;exact aak.mpr ⟨_,mem_of_lookup e,rfl⟩
theorem KR(a:R c f l σ s):f.env.cells.Pairwise λx y=>x.2≠y.2:=by
 have:=(VI.mp a.nd).2;rw[am8,alZ]at this;exact this
theorem ZV(F:nY f scope l)(i:R c f l σ s):((hO (frees scope.names) f.env).map (·.2)).Nodup:=by
 have h1:((hO (frees scope.names) f.env).map (·.1)).Nodup:=by
  unfold hO;rw[ZQ,apq,VJ];exact Io F.1
 have b:∀(L:List (Str×LP)),(∀p∈L,f.env.cells.lookup p.1=Y p.2)->(L.map (·.1)).Nodup->(L.map (·.2)).Nodup:=by
  intro L;induction L with
  |nil=>intro _ _;exact .nil
  |cons q r m =>
   intro h nd;rw[VR,VI]at nd ⊢;refine⟨λz=>?_,m (λp a=>h p (.tail _ a)) nd.2⟩;refine aM (aak.mp z) λp a e=>?_;have e1:=mem_of_lookup (h p (.tail _ a));have e2:=mem_of_lookup (h q (.head _));have j:p.2=q.2:=e;rw[j]at e1;have:=anu (KR i) e1 e2;exact nd.1 (aak.mpr ⟨p,a,this⟩)
 exact b _ (λp a=>((ye F i).mp a).2) h1
theorem aab(j:R c f l σ s)(F:nY f scope l)(A:scope.kind = .function)(M:ait.Ns s.heap.objs.size λ_=>LA)(k:∀b o,s.heap.get? b=Y o->ait.get? b=Y o): R c (jY f scope s.heap.objs.size) (jm (frees scope.names) l) σ {s with heap:=ait,toks:=t}:=by
 refine ia (id M) λoC Z T E D _=>?_;have G:gY oC:=λvs q=>by rw[D]at q;exact lz q
 have go:Go (σ.V f.pv) s.heap (σ.V (jY f scope s.heap.objs.size).pv) ait:=⟨LL _,λ_ _=>rfl,λb o p S q=>by
  rcases q with q|q|q
  .exact S (.inl q)
  .exact S (.inr q)
  .exact absurd (VQ p) (aj2.mpr (ajS q.symm)),λb o p _ _=>⟨o,k b o p,.rfl⟩⟩
 have I:∀b∈(hO (frees scope.names) f.env).map (·.2),f.pv b:=λb h=>j.own b (.inr (yf F j b h));refine⟨⟨λb o p=>k b o (j.g.stays b o p),j.g.frames.of_keeps λb o p _=>⟨o,k b o p,rfl⟩,j.g.stack,j.g.hand,j.g.depth,j.g.units,λenv he L hL=>.inl (j.g.fJ env he L hL),λa q=>?_,λi m e'=>(j.g.objs i m e').go go λa q _ o C _=>k a o C,λa q=>(nJ (j.g.own a q) λx o y=>⟨x,o,k a o y⟩),j.g.gens,j.g.os⟩,⟨_,M⟩,λx y e=>?_,λb h=>?_,λb q=>?_,?_,A,j.glob,j.lW,j.top⟩
 .rcases q with q|rfl
  .refine hZ (j.g.dg a q) λx y o C w=>?_;exact⟨x,y,o,k a o C,w⟩
  .exact⟨j.g.sX (LL _),j.g.mS (LL _),oC,E,G⟩
 .refine bg (RS e) λN hl=>?_;refine aM (j.vars x y hl) λv H rv=>?_;refine fS (F.2 x N) λQ fr _=>?_;refine⟨v,?_,rv.go go⟩;unfold fD at H;rw[Q]at H;refine aM H λa ha B=>?_;have k1:(jY f scope s.heap.objs.size).env.kindOf x=Y .cell:=H6 j.kind Q fr;unfold fD;rw[k1];exact⟨a,(MT F j N).trans ha,IsCell.data B λo e=>⟨o,k _ _ e,rfl⟩⟩
 .refine LJ (j.iS b (yf F j b h)) λv B=>?_;exact⟨v,IsCell.data B λo e=>⟨o,k _ _ e,rfl⟩⟩
 .rcases q with rfl|q
  .exact .inr rfl
  .exact .inl (I b q)
 .refine VI.mpr ⟨λz=>?_,ZV F j⟩;exact absurd (j.g.RY (I _ z)) (alR _)
def Tr(f:Fc)(scope:ajB)(e:Sg)(a:VG)(ain:Sg)(h':VG):Prop:=aJ (λb=>b∈(hO (frees scope.names) f.env).map (·.2)) f.pv e a ain h'
theorem Tr.step(H:h₀.get? C=LA)(x:Tr f scope aiE h₀ aio ait)(y:aJ (jY f scope C).P (jY f scope C).pv aio ait aip aiy):Tr f scope aiE h₀ aip aiy:=by
 refine⟨LI x.n y.n,λk D=>(y.mu k (LR D x.n)).trans (x.mu k D),λb o e p q=>?_⟩;have E:b≠C:=λz=>by rw[z,H]at e;exact bR e
 have A:¬(jY f scope C).P b:=λz=>z.elim E p;refine wZ (x.keep b o e p q) λs1 L I B m=>?_;refine i4 (y.keep b B m A s1) λQ _ _ G=>?_;refine⟨Q,λr=>?_,λi=>(y.keep b o (I i) A s1).2.2.1 i,G⟩;refine aM (L r) λM e1 a=>?_;refine fS (y.keep b M e1 A s1) λ_ k2 _=>?_;refine aM (k2 (a.rv r)) λN e2 j=>?_;refine⟨N,e2,⟨λf=>⟨((j.1 (f.of (a.1 f).1)).1).trans (a.1 f).1,λh=>?_⟩,λC w=>⟨(j.2 C (a.2 C w).1).1,(a.2 C w).2.trans (j.2 C (a.2 C w).1).2⟩⟩⟩;have:=(a.1 f).2 h;subst this;exact(j.1 f).2 λz=>z.elim h E
noncomputable def wide(f:Fc)(C:LP):Fc:={f with pv:=λb=>f.pv b∨b=C}
theorem M9(i:R c f l aiE aiI)(F:nY f scope l)(hC:aiI.heap.get? C=LA)(S:R c (jY f scope C) l' ain s')(N:Tr f scope aiE aiI.heap ain s'.heap)(kl:∀z u,(jm (frees scope.names) l).lookup z=Y u->l'.lookup z=Y u):R c (wide f C) l ain s':=by
 have cs:∀b∈(hO (frees scope.names) f.env).map (·.2),f.pv b:=λb h=>i.own b (.inr (yf F i b h));have oC:∀b o,aiI.heap.get? b=Y o->b≠C:=λb o e z=>by rw[z,hC]at e;exact bR e
 have g1:Go (aiE.V f.pv) aiI.heap (ain.V (wide f C).pv) s'.heap:=⟨N.n,N.mu,λb o e t q=>by
   have s1:aiE.σ b=LA:=aj1 λz=>t (.inl z);have M:¬f.pv b:=λz=>t (.inr z);refine bg (N.keep b o e (λz=>M (cs b z)) s1) λa _=>?_;exact q.elim (λz=>z a) λz=>z.elim M (oC b o e),λb o e t r=>by
   have s1:aiE.σ b=LA:=aj1 λz=>t (.inl z);have M:¬f.pv b:=λz=>t (.inr z);refine fS (N.keep b o e (λz=>M (cs b z)) s1) λ_ k _=>?_;refine aM (k r) λH e' w=>?_;exact⟨H,e',λf=>(w.1 f).2 M,w.2⟩⟩
 have A:∀b,f.pv b->b∉(hO (frees scope.names) f.env).map (·.2)->∀o,aiI.heap.get? b=Y o->∃H,s'.heap.get? b=Y H/\H.data=o.data:=λb q nc o e=>by
  refine hZ (i.g.dg b q) λun _ o2 e2 nf=>?_;rw[e]at e2;have zq:=LC e2;clear e2;subst zq;refine fS (N.keep b o e nc un) λ_ k _=>?_;refine aM (k (.inl nf)) λH e' w=>?_;exact⟨H,e',(w.1 nf).1⟩
 have nl:f.env.locals∉(hO (frees scope.names) f.env).map (·.2):=λz=>(VI.mp i.nd).1 (yf F i _ z);refine⟨S.g,?_,λx y e=>?_,λb h=>?_,λb q=>.inl (i.own b q),i.nd,i.kind,i.glob,i.lW,i.top⟩
 .refine LJ i.ns λm hm=>?_;exact⟨m,Ns.data hm (A _ (i.own _ (.inl rfl)) nl)⟩
 .refine aM (i.vars x y e) λv I rv=>?_;have D:∀a,f.env.cells.lookup x=Y a->f.pv a:=λa j=>i.own _ (.inr (aak.mpr ⟨_,mem_of_lookup j,rfl⟩));have old:∀a,f.env.cells.lookup x=Y a->a∉(hO (frees scope.names) f.env).map (·.2)->∀v,aiI.heap.IsCell a (Y v)->s'.heap.IsCell a (Y v):=λa j nc v L=>IsCell.data L (A a (D a j) nc);have new:∀a,f.env.cells.lookup x=Y a->a∈(hO (frees scope.names) f.env).map (·.2)->∃w,s'.heap.IsCell a (Y w)/\Rel (ain.V (wide f C).pv) s'.heap w y:=λa j B=>by
   refine aM (aak.mp B) λp hp ep=>?_;refine bg ((ye F i).mp hp) λQ hl=>?_;have ex:p.1=x:=anu (KR i) (mem_of_lookup hl) (ep▸mem_of_lookup j);rw[ex]at Q;refine aM (S.vars x y (kl x y (QM Q e))) λw G E=>?_;refine fS (F.2 x Q) λkc fr _=>?_;have k1:(jY f scope C).env.kindOf x=Y .cell:=H6 i.kind kc fr;unfold fD at G;rw[k1]at G;refine aM G λa' ha' T=>?_;have:a'=a:=by
    have:=(MT F i Q).symm.trans ha';rw[j]at this;exact(LC this).symm
   subst this;exact⟨w,T,E⟩
  have cell:(∃a,f.env.cells.lookup x=Y a/\aiI.heap.IsCell a (Y v))->∃w,(∃a,f.env.cells.lookup x=Y a/\s'.heap.IsCell a (Y w))/\Rel (ain.V (wide f C).pv) s'.heap w y:=λ⟨a,j,L⟩=>by
   by_cases B:a∈(hO (frees scope.names) f.env).map (·.2)
   .refine aM (new a j B) λw cw E=>?_;exact⟨w,⟨a,j,cw⟩,E⟩
   .exact⟨v,⟨a,j,old a j B v L⟩,rv.go g1⟩
  unfold fD at I
  split at I
  .rename_i q
   refine aM I λm hm em=>?_;refine⟨v,?_,rv.go g1⟩;unfold fD;rw[show(wide f C).env.kindOf x=Y .local from q];exact⟨m,Ns.data hm (A _ (i.own _ (.inl rfl)) nl),em⟩
  .rename_i q
   refine aM (cell I) λw h1 Z=>?_;exact⟨w,by unfold fD;rw[show(wide f C).env.kindOf x=Y .cell from q];exact h1,Z⟩
  .rename_i q
   refine aM (cell I) λw h1 Z=>?_;exact⟨w,by unfold fD;rw[show(wide f C).env.kindOf x=Y .free from q];exact h1,Z⟩
  .exact I.elim
 .by_cases B:b∈(hO (frees scope.names) f.env).map (·.2)
  .exact S.iS b B
  .refine LJ (i.iS b h) λv L=>?_;exact⟨v,IsCell.data L (A b (i.own b (.inr h)) B)⟩
theorem Tr.Tw(a:R c f l aiE aiI)(F:nY f scope l)(e:Tr f scope aiE aiI.heap ain h'):aJ f.P f.pv aiE aiI.heap ain h':=aJ.weak e λb h=>.inr (yf F a b h)
theorem Ih{pv:LP->Prop}(sb:abi C h h''):Go (ain.V λb=>pv b∨b=C) h (ain.V pv) h'' :=⟨LL _,λ_ _=>rfl,λb o _ t q=>t (q.elim .inl λz=>.inr (.inl z)),λb o e t _=>⟨o,(sb.2 b λz=>t (.inr (.inr z))).trans e,.rfl⟩⟩
theorem narrow(own:∀b,f.P b->f.pv b)(w:∀b,f.pv b->b≠C)(H:∀env∈f.fr,∀L,env.frame=Y L->f.pv L)(a:R c (wide f C) l ain s')(sb:abi C s'.heap h''):R c f l ain { s' with heap:=h''}:=by
 have D:Go (ain.V λb=>f.pv b∨b=C) s'.heap (ain.V f.pv) h'':=Ih sb;have I:ain.σ C=LA:=(a.g.dg C (.inr rfl)).1;have M:c.base.get? C=LA:=(a.g.dg C (.inr rfl)).2.1;have j:∀b,f.pv b->∀o,s'.heap.get? b=Y o->∃E,h''.get? b=Y E/\E.data=o.data:=λb q o e=>⟨o,(sb.2 b (w b q)).trans e,rfl⟩;have G:Rg c f.n f.pv f.fr f.A ain { s' with heap:=h''}:=⟨λb o e=>(sb.2 b λz=>by rw[z,M]at e;exact bR e).trans (a.g.stays b o e),frames_at (λenv he L S o e p=>⟨o,(sb.2 L (w L (H env he L S))).trans e,p⟩) a.g.frames,a.g.stack,a.g.hand,a.g.depth,a.g.units,H,λb q=>by
   refine hZ (a.g.dg b (.inl q)) λx y o e p=>?_;exact⟨x,y,o,(sb.2 b (w b q)).trans e,p⟩,λi m e=>(a.g.objs i m e).go D λb q B o Q _=>(sb.2 b λz=>by rw[z,I]at B;exact bR B).trans Q,λb q=>by
   refine nJ (a.g.own b q) λx o y=>?_;exact⟨x,o,(sb.2 b λz=>q (by rw[z];exact I)).trans y⟩,a.g.gens,a.g.os⟩
 refine⟨G,?_,λx y e=>?_,λb h=>?_,own,a.nd,a.kind,a.glob,a.lW,a.top⟩
 .refine LJ a.ns λm hm=>?_;exact⟨m,Ns.data hm (j _ (own _ (.inl rfl)))⟩
 .refine aM (a.vars x y e) λv T rv=>?_;exact⟨v,T.data λb hb=>j b (own b hb),rv.go D⟩
 .refine LJ (a.iS b h) λv N=>?_;exact⟨v,IsCell.data N (j b (own b (.inr h)))⟩
theorem aJ.but{P pv:LP->Prop}(x:aJ P pv aiE h₀ ain ait)(j:lp P aiE h₀ C)(sb:abi C ait aiy):aJ P pv aiE h₀ ain aiy :=
 ⟨x.n,x.mu,λb o e p q=>by
  have h:b≠C:=λz=>j o (z▸e) (z▸p) (z▸q);refine wZ (x.keep b o e p q) λa k i m e'=>?_;exact⟨a,λr=>aM (k r) λy e2 w=>⟨y,(sb.2 b h).trans e2,w⟩,λz=>(sb.2 b h).trans (i z),m,(sb.2 b h).trans e'⟩⟩
theorem aJ.wide{P pv:LP->Prop}(x:aJ P pv aiE h₀ aio ait)(E:lp P aiE h₀ C)(y:aJ P (λb=>pv b∨b=C) aio ait aip aiy):aJ P pv aiE h₀ aip aiy:=by
 refine⟨LI x.n y.n,λk B=>(y.mu k (LR B x.n)).trans (x.mu k B),λb o e p q=>?_⟩;have I:b≠C:=λz=>E o (z▸e) (z▸p) (z▸q);refine wZ (x.keep b o e p q) λs1 H G A m=>?_;refine i4 (y.keep b A m p s1) λN _ _ D=>?_;refine⟨N,λr=>?_,λi=>(y.keep b o (G i) p s1).2.2.1 i,D⟩;refine aM (H r) λL e1 a=>?_;refine fS (y.keep b L e1 p s1) λ_ k2 _=>?_;refine aM (k2 (a.rv r)) λM e2 j=>?_;refine⟨M,e2,⟨λf=>⟨((j.1 (f.of (a.1 f).1)).1).trans (a.1 f).1,λh=>?_⟩,λC w=>⟨(j.2 C (a.2 C w).1).1,(a.2 C w).2.trans (j.2 C (a.2 C w).1).2⟩⟩⟩;have:=(a.1 f).2 h;subst this;exact(j.1 f).2 λz=>z.elim h I
end
def Draws(c:GC)(f:Fc)(tg:LF)(v:LD)(σ:Sg)(s:LG)(a:Nat->bj)(e:Nat->List MO->Prop):Prop :=∀{P:LD->LG->Prop}{E:LD->LG->Prop},(∀it fp (St:(LP->Prop)->Nat->Sg->VG->Prop) h' t,(∀f',nX c f' tg it fp (St f'.pv) a e)->Dx St->Ke c it St->(∀b∈fp,s.heap.get? b=LA)->s.heap.StaysIn h'->St f.pv 0 σ h'->P (.ref it) {s with heap:=h',toks:=t})-> wpAny (LS c.prog c.w) f.A (amV v) P E s
def kH(c:GC)(f:Fc)(tg:LF)(e:LF)(l:Lc)(σ:Sg)(m:(Nat->bj)->(Nat->List MO->Prop)->Sg->Prop)(X:QX):Prop :=∀s,R c f l σ s->wpAny (LS c.prog c.w) f.A (eval e f.env) (λv i=>∃a b h,R c f l a i/\aJ f.P f.pv σ s.heap a i.heap/\Draws c f tg v a i b h/\m b h a) (dH c f σ s λl' x j=>l'=l/\X x j) s
section
variable{c:GC}{f:Fc}{l:Lc}{σ ain:Sg}{s s':LG}{X:QX}{scope:ajB}{tg:LF}
theorem JS{w:(Nat->bj)->(Nat->List MO->Prop)->Sg->Prop}(h:bF c f e l σ (λx i=>∃a b,tJ c f tg x i a b/\w a b i) X):kH c f tg e l σ w X:=λs z => dc (h s z) (λv y x i r j m A=>pg A λa b ok q=>⟨i,a,b,j,m,λk=>ok j r k,q⟩) λ_ _ p=>p
theorem Vn{N:(Nat->bj)->(Nat->List MO->Prop)->Sg->Prop}(hq:c.quiet=W)(T:noStar [e]=W)(h:bF c f (.Name x np) l σ (λy B=>y = .ty "range" /\ bF c f e l B (λz A=>∃n,z = .int n/\aeK 0 n 1=W/\N (λi x _=>(i:Int)< QG 0 n 1/\x = .int i) (λi _=>QG 0 n 1<=(i:Int)) A) X) X): kH c f tg (.Call (.Name x np) [e] [] pos) l σ N X:=λs S =>
 ak5 (dc (h s S) (λv G y B r H C ⟨Q,I⟩=>by
  subst Q;cases r.Jv;refine VL (Eh (r:=[]) (dX.ty "range") T (s:=G) (Uv I λA n sm q vs j M L rl=>?_) H) (λ_ _ p=>p) λ_ _ p=>p.after C;refine aM rl.s8 λw m a=>?_;subst m;refine LJ a.int_inv λtn m=>?_;subst m;refine call_range_1 ?_;have st:j.heap.StaysIn (j.heap.push { cls:=.type "range",data:=.fields #[.int 0 j.toks,.int n tn,.int 1 (j.toks+1)]}):=gH _ _;have D:=(M.grow st).tok (j.toks+1+1);refine⟨A,_,_,D,(C.trans L).trans (aJ.grow st),λ{P E} k=>?_,q⟩;refine anw (apD _ _ _ _ _ _ _) sm ?_;refine k _ _ (λ_=>AA c _ (QG 0 n 1)) _ _ (λf'=>Nh hq) (λ{pv pv' i σ ain h h'} x g Z=>?_) (λ_ st h=>wpAny_pyIter_rangeiter st.2.2 h) vY (gH _ _) ⟨D.g.sX (LL _),D.g.mS (LL _),?_⟩
  .refine fS x λa b e=>?_;refine bg (Z _ _ e ⟨⟨_,rfl⟩,_,rfl,by decide⟩ a) λp q=>?_;exact⟨p,b,q⟩
  .unfold amM;rw[show QG 0 n 1 - ((0:Nat):Int)=QG 0 n 1 from apo _];exact VU _ rfl) λ_ _ p=>p)
structure vq (f:Fc) (scope:ajB) (l:Lc) (x:Str):Prop where
 kind:scope.kind = .function
 names:∀y∈scope.names,y.2 = .local->scope.names.lookup y.1=Y .local
 cell:∀y∈scope.names,y.2 ≠ .cell
 free:nY f scope l
 x:scope.names.lookup x=Y .local
structure tR (f:Fc) (scope:ajB) (f':Fc):Prop where
 n:f'.n=f.n
 sc:f'.env.scope=relabel scope f.env
theorem Jj{m:Str->Option LD}(t:fV c.base a cls fl h)(H:h.Ns C m)(sb:abi C h h''):fV c.base a cls fl h'':=by
 refine ia H λS es Q y x _=>?_;refine CV t λN vs T M ts b A j B D E e G p i=>?_;have I:a≠C:=λz=>by rw[z,y]at b;have w:=LC b;clear b;subst w;rw[x]at j;exact lz j
 have L:T≠C:=λz=>by rw[z,y]at e;have w:=LC e;clear e;subst w;rw[x]at p;exact lz p
 exact⟨N,vs,T,M,ts,(sb.2 a I).trans b,A,j,B,D,E,(sb.2 T L).trans e,G,p,i⟩
theorem ahc{pv:LP->Prop}{m:Str->Option LD}(T:dZ c fl (ain.V λb=>pv b∨b=C) h (.ref a) x)(p:h.Ns C m)(sb:abi C h h''):dZ c fl (ain.V pv) h'' (.ref a) x:=by
 refine T.go (Ih sb) λa' E vs q e d k=>?_;have i:=ajL q;clear q;subst i;refine ia (id p) λN es I y w _=>?_;have D:a≠C:=λz=>by rw[z,y]at e;have i:=LC e;clear e;subst i;rw[w]at d;exact lz d
 refine⟨E,vs,(sb.2 a D).trans e,rfl,rfl,d,?_⟩;refine nM T.lP λG H A L j M B=>?_;rw[A]at e;have i:=LC e;clear e;subst i;rw[d]at j;have i:=aln j;clear j;subst i;rcases B with g|g|g
 .exact .inl g
 .exact .inr (.inl (Jj g p sb))
 .exact .inr (.inr (Jj g p sb))
theorem abZ{h:VG}{a o:Obj}{b:LP}(q:b≠h.objs.size)(e:(h.push a).get? b=Y o):h.get? b=Y o:=by
 refine bg (anz.mp e) λe1 e2=>?_;refine anz.mpr ⟨?_,e2⟩;have lt:=VQ e;rw[aky]at lt;cases h with
 |_=>simpa[Heap.push,Array.getElem?_push,q]using e1
theorem M7{use:Option (LD->Sem Unit)}{Q:List O->Nat->Sg->Prop}{PV:LD->LG->Prop}(hq:c.quiet=true)(ok:vq f scope l x)(mh:∀y,aeL iter f.env y=pure y)(h:kH c f (.Name x px) iter l σ (λM Z j=>∀f',tR f scope f'->∀τ:Sg,τ.H=j.H++[.lst []]->∃n,Cp c f' x elt ifs (jm (frees scope.names) l) j.H.length M Z (λacc E=>Q acc j.H.length E) X n 0 [] τ) X)(hR:R c f l σ s)(fin:∀acc k E I C v m,Q acc k E->R c (wide f C) l E I->aJ f.P f.pv σ s.heap E I.heap->lp f.P σ s.heap C->(∀b,f.pv b->b≠C)->I.heap.Ns C m->Rel (E.V (wide f C).pv) I.heap v (.ref k)-> Ec (LS c.prog c.w) f.A (dH c f σ s λl' x ain=>l'=l/\X x ain) use PV v (akF scope (hO (frees scope.names) f.env) C f.env) (.ok .next) I): wpAny (LS c.prog c.w) f.A (comprehension (.ListComp elt [⟨.Name x px,iter,ifs,0⟩] scope pos) scope f.env (firstIterPos [⟨.Name x px,iter,ifs,0⟩] pos) (newList []) false (eval iter f.env) use) PV (dH c f σ s λl' x ain=>l'=l/\X x ain) s:=by
 refine aaf rfl mh (ZY (ok.free.cell hR)) ok.kind ok.names ok.cell (QP (h s hR) (λv aiq j M Z B air D q=>?_) λe s' p=>p);refine D λit fp St h' t zzW mv slf fr st st0=>?_;intro ait C hC hn kp hD;obtain⟨hp,gs,dr,tk,os⟩:=aiq;have R2:R c f l j ⟨h',gs,dr,t,os⟩:=(B.grow st).tok t;have st:hp.StaysIn h':=st;have hC:C=h'.objs.size+1:=hC;have hD:ait.get? h'.objs.size=some { cls:=.type "list",data:=.seq [].toArray}:=hD;have kp:∀b o,h'.get? b=some o->ait.get? b=some o:=kp;refine fS (Cw (vs:=[]) (xs:=[]) R2 .nil) λR3 ra S3=>?_;have kk:∀b o,(h'.push { cls:=.type "list",data:=.seq [].toArray}).get? b=some o->ait.get? b=some o:=λb o e=>by
  by_cases q:b=h'.objs.size
  .subst q;rw[VU _ rfl]at e;have zq:=LC e;clear e;subst zq;exact hD
  .exact kp b o (abZ q e)
 have hC':C=(h'.push { cls:=.type "list",data:=.seq [].toArray}).objs.size:=by rw[aky];exact hC
 subst hC';have R4:R c (jY f scope (h'.push { cls:=.type "list",data:=.seq [].toArray}).objs.size) (jm (frees scope.names) l) (j.add h'.objs.size (.lst []) none) ⟨ait,gs,dr,t,os⟩:=aab (t:=t) R3 ok.free ok.kind hn kk;have G:hp.get? (h'.push { cls:=.type "list",data:=.seq [].toArray}).objs.size=none:=by
  cases q:hp.get? (h'.push { cls:=.type "list",data:=.seq [].toArray}).objs.size with
  |none=>rfl
  |some o =>
   have:=UB { cls:=.type "list",data:=.seq [].toArray} (st _ o q);rw[BP (LL _)]at this;exact bR this
 have hCD:h'.objs.size≠(h'.push { cls:=.type "list",data:=.seq [].toArray}).objs.size:=by rw[aky];exact WA (ajj _)
 have L:∀b o,h'.get? b=some o->b≠h'.objs.size/\b≠(h'.push { cls:=.type "list",data:=.seq [].toArray}).objs.size:=λb o e=>by
  have lt:=VQ e;rw[aky];exact⟨WA lt,WA (an3 lt)⟩
 have k1:h'.StaysIn ait:=λb o e=>kk b o (UB _ e);generalize hkC:(h'.push { cls:=.type "list",data:=.seq [].toArray}).objs.size=C at hn R4 G hCD L ⊢;have ig:∀x y,(none:Option LP)=some x->y<=x:=λ_ _ e=>by exact bR e
 have tr0:Tr f scope j hp (j.add h'.objs.size (.lst []) none) ait:=(aJ.grow st).trans (aJ.add (s:=⟨h',gs,dr,t,os⟩) R2.g k1 (LL _) λx e=>ig x _ e);have pC:∀b,f.pv b->b≠C:=λb q z=>by
  refine hZ (B.g.dg b q) λ_ _ o e _=>?_;rw[z]at e;rw[show(Shared.heap ⟨hp,gs,dr,tk,os⟩).get? C=none from G]at e;exact bR e
 have pr:=B.g.fJ;have frC:lp f.P σ s.heap C:=lp.of air G;have g4:Go (j.V f.pv) h' ((j.add h'.objs.size (.lst []) none).V (jY f scope C).pv) ait:=⟨by show _<=(j.H++[_]).length;simp[Sg.V],λi hi=>QE (WA hi),λb o e tt q=>by
   rcases q with q|q|q
   .exact tt (.inl λz=>q (by
     show(if b=h'.objs.size then _ else if some b=none then _ else j.σ b)=none;rw[QE (L b o e).1,QE (by simp)];exact z))
   .exact tt (.inr q)
   .exact(L b o e).2 q,λb o e _ _=>⟨o,k1 b o e,.rfl⟩⟩
 have st4:St (jY f scope C).pv 0 (j.add h'.objs.size (.lst []) none) ait:=mv st0 g4 λb o e _ z=>⟨by
   show(if b=h'.objs.size then _ else if some b=none then _ else j.σ b)=none;rw[QE (L b o e).1,QE (by simp)];exact z,k1 b o e⟩
 have mu0:(j.add h'.objs.size (.lst []) none).μ j.H.length=h'.objs.size:=VD rfl;have wz:j.H.length < (j.add h'.objs.size (.lst []) none).H.length:=by show _ < (j.H++[_]).length;simp
 refine LJ (q (jY f scope C) ⟨rfl,rfl⟩ (j.add h'.objs.size (.lst []) none) rfl) λn w=>?_;have hl:(jm (frees scope.names) l).lookup x=none:=by
  cases e:(jm (frees scope.names) l).lookup x with
  |none=>rfl
  |some y =>
   have:=(ok.free.2 x (RS e).1).2.1;rw[ok.x]at this;cases this
 have N:ajz (LS c.prog c.w) f.A (.compLoop (.ListComp elt [⟨.Name x px,iter,ifs,0⟩] scope pos) 0 (.ref it) (.ref h'.objs.size) (jY f scope C).env) (Ec (LS c.prog c.w) f.A (dH c f σ s λl' x ain=>l'=l/\X x ain) use PV (.ref h'.objs.size) (akF scope (hO (frees scope.names) f.env) C f.env)) ⟨ait,gs,dr,t,os⟩:=by
  refine aad (f:=jY f scope C) (Tr:=λain h2=>Tr f scope j hp ain h2/\j.H.length < ain.H.length/\ain.μ j.H.length=h'.objs.size) hq (zzW (jY f scope C)) (.inl (anc ok.x)) hl
   ?_ ?_ ?_ ?_ n 0 [] R4 st4 ⟨tr0,wz,mu0⟩ wz mu0 w
  .exactλzq S=>fS zq λa b d=>⟨Tr.step G a S,LR b S.n,(S.mu _ b).trans d⟩
  .exactλzq k=>fS zq λa b d=>⟨aJ.fp a (λb hb o e=>by rw[show hp.get? b=none from fr b hb]at e;exact bR e) k,b,d⟩
  .intro acc ain s' q' R' zi0;refine fS zi0 λtr lt mu=>?_;refine LJ R'.ns λm hm=>?_;refine fin acc j.H.length ain s' C _ m q' (M9 B ok.free G R' tr λ_ _ e=>e) (air.trans (tr.Tw B ok.free)) frC pC hm ?_;rw[←mu];exact .ref lt
  .intro a y l' ain s' xq kl R' T tr zi0;refine fS zi0 λtt lt mu=>?_;refine LJ R'.ns λm hm=>?_;refine⟨m,hm,λh'' sb=>?_⟩;have Rn:R c f l ain { s' with heap:=h''}:=narrow B.own pC pr (M9 B ok.free G R' tt kl) sb;have Tn:dZ c f.fl (ain.V f.pv) h'' (.ref a) y:=ahc T hm sb;have trn:fV c.base a (.ref y.C) f.fl h'':=Jj tr hm sb;have Sn:aJ f.P f.pv σ s.heap ain h'':=(air.trans (tt.Tw B ok.free)).but frC sb;refine II (id trn) λoe vs T2 oT ts g1 g2 g3 g4 g5=>?_;unfold PySem.passOn;refine wpAny_bind (ajD g1 g3 g4 ?_);rw[QE (show ¬((aaS T2 == akC)=true) from by simp)];refine wpAny_bind (BM (s:={ s' with heap:=h''}) (fr:=f.env.frame) Rn Tn trn (.inr rfl) λh2 R2' T3 _ S2=>?_);exact wpAny_throw ⟨y,l,ain,T3,R2',Sn.trans S2,rfl,xq⟩
 exact codeAny_compStart_list N (slf (f':=jY f scope C) (s:=⟨ait,gs,dr,t,os⟩) R4 st4 N)
theorem Yi(hq:c.quiet=W)(ok:vq f scope l x)(mh:∀y,aeL iter f.env y=pure y)(h:kH c f (.Name x px) iter l σ (λe i b=>∀f',tR f scope f'->∀w:Sg,w.H=b.H++[.lst []]->∃n,Cp c f' x elt ifs (jm (frees scope.names) l) b.H.length e i (λacc a=>Q (.ref b.H.length) a) X n 0 [] w) X): bF c f (.ListComp elt [⟨.Name x px,iter,ifs,0⟩] scope pos) l σ Q X:=λs p=>by
 show wpAny _ _ (eval (.ListComp elt [⟨.Name x px,iter,ifs,0⟩] scope pos) f.env) _ _ _;rw[eval_ListComp];refine M7 (Q:=λacc k a=>Q (.ref k) a) hq ok mh h p λacc k a A C v m q z S j B hm r=>?_;refine⟨m,hm,λh' sb=>?_⟩;exact⟨.ref k,a,r.go (Ih sb),narrow p.own B p.g.fJ z sb,S.but j sb,q⟩
theorem Xp{X:Lc->QX}(hq:c.quiet=W)(ok:vq f scope l x)(mh:∀y,aeL iter f.env y=pure y)(G:alM (.ListComp elt [⟨.Name x px,iter,ifs,0⟩] scope pos) (Y (.Name y py)) spos.line (jK f.env.scope)=pure W)(Z:pR f y)(h:kH c f (.Name x px) iter l σ (λA B b=>∀f',tR f scope f'->∀M:Sg,M.H=b.H++[.lst []]->∃n,Cp c f' x elt ifs (jm (frees scope.names) l) b.H.length A B (λacc a=>Q .next (cy y (.ref b.H.length) l) a) (X l) n 0 [] M) (X l)): d6 c f (ak4 (.Assign [.Name y py] (.ListComp elt [⟨.Name x px,iter,ifs,0⟩] scope pos) spos) f.env) l σ Q X:=λs D=>by
 rw[exec_Assign_Name_used _ _ _ _ (by rw[ag4];exact G)];refine wpAny_bind (ajr (wpAny_bind ?_));show wpAny _ _ (do let _ ←comprehension (.ListComp elt [⟨.Name x px,iter,ifs,0⟩] scope pos) scope f.env (firstIterPos [⟨.Name x px,iter,ifs,0⟩] pos) (newList []) LB (eval iter f.env) (Y (akj (.Name y py) f.env))) _ _ s;refine wpAny_bind (VL (M7 (PV:=λ_ s'=>J5 c f σ s Q .next s') (Q:=λacc k a=>Q .next (cy y (.ref k) l) a) (use:=Y (akj (.Name y py) f.env)) hq ok mh h D λacc k a T C v m q E S j L hm r=>?_) (λ_ s' p=>wpAny_pure (wpAny_pure p)) λ_ _ p=>p.up);show wpAny _ _ (akj (.Name y py) (wide f C).env v) _ _ _;refine assign_Name (Ad (f:=wide f C) E r Z λs' N S2=>?_);have i:∃m,s'.heap.Ns C m:=by
  refine hZ (E.g.dg C (.inr rfl)) λ_ _ o e I=>?_;have nP:¬(wide f C).P C:=λz=>L C (D.own C z) rfl;refine fS (S2.keep C o e nP (E.g.dg C (.inr rfl)).1) λ_ kp _=>?_;refine aM (kp (.inl I)) λo' e' w=>?_;refine⟨m,Ns.data hm λo2 e2=>?_⟩;rw[e]at e2;have zq:=LC e2;clear e2;subst zq;exact⟨o',e',(w.1 I).1⟩
 refine LJ i λm' i=>?_;refine⟨m',i,λh' sb=>?_⟩;exact⟨.next,_,a,trivial,narrow D.own L D.g.fJ N sb,(S.wide j S2).but j sb,q⟩
end
end
section
open PySem PySem.W
noncomputable def gd{β:Type}(b:Bool)(y:Option β):Option β:=match b with|true=>y|false=>LA
noncomputable def alt{β:Type}(a b:Option β):Option β:=match a with|some v=>Y v|none=>b
def oP{b:Type}(x:Option b)(K:b->Prop):Prop:=match x with|some a=>K a|none=>False
noncomputable def eO{b β:Type}(x:Option b)(f:b->Option β)(y:Option β):Option β:=match x with|some a=>f a|none=>y
def bP(b:Bool)(p:Prop):Prop:=match b with|true=>p|false=>False
def cP(b:Bool)(p q:Prop):Prop:=match b with|true=>p|false=>q
theorem gK{a:Type}{b:Bool}{x:Option a}{y:a}{P:Prop}(h:gd b x=Y y)(k:b=W->x=Y y->P):P:=by
 induction b using cB with|false=>cases h|true=>exact k rfl h
theorem aK{e:Type}{a b:Option e}{y:e}{P:Prop}(h:alt a b=Y y)(k:a=Y y->P)(k2:b=Y y->P):P:=by
 induction a using cO with|none=>exact k2 h|some a=>exact k h
theorem oK{b:Type}{x:Option b}{K:b->Prop}{P:Prop}(h:oP x K)(k:∀a,x=Y a->K a->P):P:=by
 unfold oP at h;induction x using cO with|none=>exact aoE h|some a=>exact k a rfl h
theorem oI{b:Type}{x:Option b}{K:b->Prop}{a:b}(h:x=Y a)(k:K a):oP x K:=by rw[h];unfold oP;exact k
theorem eK{b:Type}{x:Option b}{K:b->Prop}{p P:Prop}(h:eP x K p)(k:∀a,x=Y a->K a->P)(k2:x=LA->p->P):P:=by
 unfold eP at h;induction x using cO with|none=>exact k2 rfl h|some a=>exact k a rfl h
theorem A9{e b:Type}{x:Option e}{f:e->Option b}{z:Option b}{y:b}{P:Prop}(h:eO x f z=Y y)(k:∀a,x=Y a->f a=Y y->P)(k2:x=LA->z=Y y->P):P:=by
 induction x using cO with|none=>exact k2 rfl h|some a=>exact k a rfl h
theorem cK{b:Bool}{p q P:Prop}(h:cP b p q)(k:b=W->p->P)(k2:b=LB->q->P):P:=by
 unfold cP at h;induction b using cB with|false=>exact k2 rfl h|true=>exact k rfl h
theorem bE{b:Bool}{p P:Prop}(h:bP b p)(k:b=W->p->P):P:=by
 unfold bP at h;induction b using cB with|false=>exact aoE h|true=>exact k rfl h
theorem bI(h:b=W)(k:p):bP b p:=by rw[h];unfold bP;exact k
theorem q5(h:cP W p q):p:=by unfold cP at h;exact h
theorem q4(h:cP LB p q):q:=by unfold cP at h;exact h
abbrev En:=List (Option O)
abbrev KX:=LP->List (Str×O)->List MO->Prop
abbrev KE:=LP->List (Str×O)->En->List MO->Prop
abbrev KF:=Fl->En->List MO->Prop
abbrev EM(a:Type):=En->List MO->(a->List MO->Prop)->KX->Prop
abbrev Fn:=List O->List MO->(bj)->KX->Prop
abbrev SM:=En->List MO->KF->KE->Prop
abbrev Bd:=List (Nat×List (AK×O))
noncomputable def t6:List Nat->List Nat->Bool
 | [],l=>(match l with | []=>W|_::_=>LB)
 |x::r,l=>match l with | []=>LB|y::q=>cond (LK x y) (t6 r q) LB
def eu(a b:Str):Bool:=t6 a.cps.toList b.cps.toList
def look{a:Type}(n:Str):List (Str×a)->Option a
 | []=>LA
 |p::r=>cond (eu n p.1) (Y p.2) (look n r)
def fT(n:Str)(x:O):List (Str×O)->List (Str×O)
 | []=>[(n,x)]
 |p::r=>cond (eu p.1 n) ((p.1,x)::r) (p::fT n x r)
noncomputable def bJ(a:Nat):List Nat->Bool
 | []=>LB
 |x::r=>cond (LK a x) W (bJ a r)
noncomputable def eM{b:Type}(a:Nat):List (Nat×b)->Option b
 | []=>LA
 |p::r=>cond (LK a p.1) (Y p.2) (eM a r)
noncomputable def bt{a:Type}(p:a->Bool):List a->Bool
 | []=>W
 |x::r=>cond (p x) (bt p r) LB
noncomputable def Bb:Int->Int->Bool
 | .ofNat a,j=>(match j with | .ofNat b=>LK a b | .negSucc _=>LB)
 | .negSucc a,j=>(match j with | .ofNat _=>LB | .negSucc b=>LK a b)
def pV:AK->AK->Bool
 | .int a,y=>(match y with | .int b=>Bb a b | .str _=>LB)
 | .str a,y=>(match y with | .int _=>LB | .str b=>eu a b)
def zu(k:AK):List (AK×O)->Option O
 | []=>LA
 |p::r=>cond (pV k p.1) (Y p.2) (zu k r)
noncomputable def one?{b:Type}:List b->Option b | []=>LA|a::r=>(match r with | []=>Y a|_::_=>LA)
noncomputable def Ua{e:Type}:List e->Option (e×e)| []=>LA|a::r=>(one? r).bind λb=>Y (a,b)
noncomputable def aI:O->Option Int | .int i=>Y i|_=>LA
noncomputable def aS:O->Option Str | .str i=>Y i|_=>LA
noncomputable def aT:O->Option (List O)| .tup i=>Y i|_=>LA
noncomputable def aR:O->Option Nat | .ref i=>Y i|_=>LA
noncomputable def aG:O->Option Nat | .gl i=>Y i|_=>LA
noncomputable def KD:O->Option String | .bi i=>Y i|_=>LA
noncomputable def xR:O->Option String | .ty i=>Y i|_=>LA
noncomputable def aO:O->Option (Nat×List (Str×O))| .obj C i=>Y (C,i)|_=>LA
noncomputable def aE:O->Option (Nat×List (Str×O))| .exc C i=>Y (C,i)|_=>LA
noncomputable abbrev mL:MO->Option (List O):=mC
noncomputable def mD:MO->Option (List (Str×O))| .bD i=>Y i|_=>LA
noncomputable def mI:MO->Option (Nat×List (Str×O))| .inst C i=>Y (C,i)|_=>LA
noncomputable def mE:MO->Option (Nat×List (Str×O))| .exc C i=>Y (C,i)|_=>LA
def dQ{b:Type}(g:MO->Option b)(H:List MO)(x:O):Option (Nat×b):=(aR x).bind λk=>(H[k]?).bind λm=>(g m).bind λa=>Y (k,a)
noncomputable def qH(i:Int):Bool:=VE i.natAbs 4611686018427387904
noncomputable def bf{a:Type}:List a->Nat->Bool
 | [],_=>W
 |_::r,n=>match n with|0=>LB|n+1=>bf r n
def fits{a:Type}(l:List a):Bool:=bf l 60000
def iG{α:Type}(x y:O)(f:Int->Int->Option α):Option α:=(aI x).bind λa=>(aI y).bind λb=>f a b
def aQ(x y:O)(H:List MO):Option O:=alt (iG x y λa b=>Y (.int (a+b))) (alt ((aS x).bind λa=>(aS y).bind λb=>gd (fits (a.cps.toList++b.cps.toList)) (Y (.str (a++b)))) ((listOf H x).bind λxs=>(listOf H y).bind λys=>gd (fits (xs++ys)) (Y (.lst (xs++ys)))))
def wX(x y:O)(_:List MO):Option O:=iG x y λa b=>Y (.int (a - b))
def CS(x y:O)(_:List MO):Option O:=iG x y λa b=>alt (gd (qH a) (Y (.int (a * b)))) (gd (qH b) (Y (.int (a * b))))
def fR(x y:O)(_:List MO):Option O:=iG x y λa b=>gd (VE 0 b.natAbs&&VE b.natAbs 1073741824) (Y (.int (a.fdiv b)))
def eX(x y:O)(_:List MO):Option O:=iG x y λa b=>gd (VE 0 b.natAbs) (Y (.int (a.fmod b)))
def tc(x y:O)(_:List MO):Option O:=iG x y λa n=>gd (decide (0<=n)&&decide ((alz a:Int)* n<=2 ^ 27)) (Y (.int (a ^ n.toNat)))
def eE(x:O):Option O:=(aI x).bind λa=>Y (.int (-a))
noncomputable def b6:Bool->Bool|true=>LB|false=>W
noncomputable def cM:Nat:=50
def df:Nat->ajY->Bool
 |0,_=>LB
 |n+1,d=>match d with
  | .none=>W
  | .bool _=>W
  | .int _=>W
  | .str s=>bt (λx=>VE x 1114112) s.cps.toList
  | .tuple l=>bt (df n) l
  | .list l=>bt (df n) l
  | .dict _=>LB
def kj(x y:O)(H:List MO):Option Bool:=(toPy H cM x).bind λd=>(toPy H cM y).bind λe=>gd (df cM d&&df cM e) (Y (VV d e))
def oO(x y:O)(H:List MO):Option Bool:=(listOf H x).bind λxs=>(listOf H y).bind λys=>gd (b6 (LK xs.length ys.length)) (Y LB)
def aX(x y:O)(H:List MO):Option Bool:=alt (iG x y λa b=>Y (a == b)) (alt ((aS x).bind λa=>(aS y).bind λb=>Y (a == b)) (alt (oO x y H) (kj x y H)))
def eN(x y:O)(H:List MO):Option Bool:=(aX x y H).bind λb=>Y (!b)
def ef(x y:O)(_:List MO):Option Bool:=iG x y λa b=>Y (decide (a < b))
def pe(x y:O)(_:List MO):Option Bool:=iG x y λa b=>Y (decide (b < a))
def qz(x y:O)(_:List MO):Option Bool:=iG x y λa b=>Y (decide (b<=a))
noncomputable def qo:O->Bool | .none=>W|_=>LB
def lM(x y:O)(_:List MO):Option Bool:=gd (qo y) (Y x.isNone)
def IC(x y:O)(_:List MO):Option Bool:=gd (qo y) (Y (!x.isNone))
def keyOf(x:O):Option AK:=alt ((aI x).bind λi=>Y (.int i)) ((aS x).bind λs=>Y (.str s))
noncomputable def SW:AK->AK->Bool
 | .int _,y=>(match y with | .int _=>W | .str _=>LB)
 | .str _,y=>(match y with | .int _=>LB | .str _=>W)
noncomputable def ab8(k:AK):List (AK×O)->Bool | []=>LB|p::_=>SW p.1 k
def AQ(bd:Bd)(x y:O):Option (List (AK×O)×AK):=(aG x).bind λa=>(eM a bd).bind λb=>(keyOf y).bind λk=>gd (ab8 k b) (Y (b,k))
def uQ(x:O)(ys:List O)(H:List MO):Option Bool:=(toPy H cM x).bind λd=>(eQ (toPy H cM) ys).bind λds=>gd (bt (df cM) ds&&df cM d) (Y (ds.any λy=>VV y d))
noncomputable def nB{a:Type}:Option a->Bool|some _=>W|none=>LB
def wU(x y:O)(H:List MO):Option Bool:=alt ((aS y).bind λb=>(aS x).bind λa=>Y (!(akb b a 0 b.length 1).isEmpty)) (alt ((aT y).bind λys=>uQ x ys H) (alt ((listOf H y).bind λys=>uQ x ys H) ((dQ mD H y).bind λq=>(aS x).bind λs=>Y (nB (look s q.2)))))
def dh(bd:Bd)(x y:O)(H:List MO):Option Bool:=alt ((AQ bd y x).bind λq=>Y (nB (zu q.2 q.1))) (wU x y H)
def s9(x y:O)(H:List MO):Option Bool:=(wU x y H).bind λb=>Y (!b)
def idx(xs:List O)(y:O):Option O:=(aI y).bind λi=>gd (qH i) ((aeO i xs.length).bind λj=>xs[j]?)
def aF(bd:Bd)(x y:O)(H:List MO):Option O:=alt ((aT x).bind λxs=>idx xs y) (alt ((listOf H x).bind λxs=>idx xs y) (alt ((aS x).bind λs=>(aI y).bind λi=>gd (qH i) (((aeO i s.length).bind (s.cps[·]?)).bind λa=>Y (.str ⟨#[a]⟩))) (alt ((AQ bd x y).bind λq=>zu q.2 q.1) ((dQ mD H x).bind λq=>(aS y).bind λs=>look s q.2))))
def vh(x:O):Option (Option Int):=alt (gd (qo x) (Y LA)) ((aI x).bind λi=>Y (Y i))
noncomputable def uS{a:Type}:Option a->Bool|none=>W|some _=>LB
def wV(x:O)(lo hi st:Option Int)(H:List MO):Option O :=alt ((aS x).bind λs=>gd (b6 (st.getD 1 == 0)&&fits (z9 s lo hi st).cps.toList) (Y (.str (z9 s lo hi st)))) (alt ((listOf H x).bind λxs=>gd (b6 (st == Y 0)&&fits xs) (Y (.lst (pj xs lo hi st)))) ((aT x).bind λxs=>hi.bind λb=>gd (uS lo&&uS st&&decide (0<=b)&&VE b.toNat xs.length&&fits xs) (Y (.tup (xs.take b.toNat)))))
noncomputable def xu:O->Option Bool
 | .bool b=>Y b
 | .none=>Y LB
 | .int i=>Y (i != 0)
 |_=>LA
def iJ(n:Str)(a es:List Nat)(x:O)(H:List MO):Option O:=alt ((aO x).bind λp=>gd (bJ p.1 a) (look n p.2)) (alt ((aE x).bind λp=>gd (bJ p.1 es) (look n p.2)) ((dQ mI H x).bind λp=>gd (bJ p.2.1 a) (look n p.2.2)))
def iZ(x:O)(H:List MO):Option O:=alt ((listOf H x).bind λxs=>gd (fits xs) (Y (.int xs.length))) (alt ((aT x).bind λxs=>gd (fits xs) (Y (.int xs.length))) ((dQ mD H x).bind λq=>gd (fits q.2) (Y (.int q.2.length))))
def MW(x:O)(H:List MO):Option Nat:=alt ((aO x).bind λp=>Y p.1) ((dQ mI H x).bind λp=>Y p.2.1)
def zL(a:List Nat)(x y:O)(H:List MO):Option Bool:=alt ((aG y).bind λD=>gd (bJ D a) (alt ((MW x H).bind λC=>gd (bJ C a) (Y (LK C D))) (gd (qo x) (Y LB)))) ((xR y).bind λs=>gd (s == "str") (alt ((aS x).bind λ_=>Y W) ((listOf [] x).bind λ_=>Y LB)))
def toStr(i:Int):Option Str:=gd (decide (0<=i)&&decide (i < 100)) (Y (ami (toString i)))
def mF(n:Str)(a es:List Nat)(x v:O)(H:List MO):Option (List MO) :=alt ((dQ mI H x).bind λp=>gd (bJ p.2.1 a&&bf p.2.2 900) (Y (H.set p.1 (.inst p.2.1 (fT n v p.2.2))))) ((dQ mE H x).bind λp=>gd (bJ p.2.1 es&&bf p.2.2 900) (Y (H.set p.1 (.exc p.2.1 (fT n v p.2.2)))))
def putItem(x i v:O)(H:List MO):Option (List MO) :=alt ((dQ mD H x).bind λp=>(aS i).bind λs=>gd (fits p.2) (Y (H.set p.1 (.bD (fT s v p.2))))) ((dQ mL H x).bind λp=>(aI i).bind λi=>gd (decide (0<=i)&&VE i.toNat p.2.length&&fits p.2) (Y (H.set p.1 (.lst (p.2.set i.toNat v)))))
def uo(v:O)(H:List MO):Option (O×List MO):=(aR v).bind λk=>(H[k]?).bind λm=>(rB m).bind λz=>Y (z,H.set k .dead)
noncomputable def upTo:Nat->Int->List O
 |0,_=>[]
 |n+1,i=>.int i::upTo n (i+1)
noncomputable def zG:Nat->List O->List O
 |_,[]=>[]
 |i,x::r=>.tup [.int i,x]::zG (i+1) r
noncomputable def mZ(is:List Nat)(e:En):Option En:=match is with
 | []=>some []
 |i::r=>((e[i]?).bind id).bind λv=>(mZ r e).bind λq=>some (some v::q)
noncomputable def jD:Nat:=3000
def aW(v:O):EM O:=λ_ H K _=>K v H
def Loc(i:Nat):EM O:=λe H K _=>oP ((e[i]?).bind id) λv=>K v H
def Un(f:O->Option O)(a:EM O):EM O:=λe H K X=>a e H (λx H=>oP (f x) λv=>K v H) X
def two{h:Type}(f:O->O->List MO->Option h)(a b:EM O)(e:En)(H:List MO)(K:h->List MO->Prop)(X:KX):Prop:=a e H (λx H=>b e H (λy H=>oP (f x y H) λv=>K v H) X) X
def ao(f:O->O->List MO->Option O)(a b:EM O):EM O:=λe H K X=>two f a b e H K X
def eY(f:O->O->List MO->Option Bool)(a b:EM O):EM O:=λe H K X=>two f a b e H (λv H=>K (.bool v) H) X
def aC(f:O->O->List MO->Option Bool)(a b:EM O):EM Bool:=λe H K X=>two f a b e H K X
def Dy(a:EM O):EM O:=λe H K X=>a e H (λx H=>oP (xu x) λb=>K (.bool (!b)) H) X
def kD(a:EM Bool):EM Bool:=λe H K X=>a e H (λb H=>K (!b) H) X
def cJ(a:EM O):EM Bool:=λe H K X=>a e H (λx H=>oP (xu x) λb=>K b H) X
def b7(a b:EM Bool):EM Bool:=λe H K X=>a e H (λt H=>cP t (b e H K X) (K LB H)) X
def gf(a b:EM Bool):EM Bool:=λe H K X=>a e H (λt H=>cP t (K W H) (b e H K X)) X
def fq:EM Bool:=λ_ H K _=>K W H
def lU:EM Bool:=λ_ H K _=>K LB H
def dP(t:EM Bool)(a b:EM O):EM O:=λe H K X=>t e H (λt H=>cP t (a e H K X) (b e H K X)) X
def mM(a b:EM O):EM O:=λe H K X=>a e H (λx H=>oP (xu x) λt=>cP t (b e H K X) (K x H)) X
def n5(a b:EM O):EM O:=λe H K X=>a e H (λx H=>oP (xu x) λt=>cP t (K x H) (b e H K X)) X
def Args:List (EM O)->EM (List O)
 | []=>λ_ H K _=>K [] H
 |a::r=>λe H K X=>a e H (λx H=>Args r e H (λxs H=>K (x::xs) H) X) X
def aB(F:Fn)(as:List (EM O)):EM O:=λe H K X=>Args as e H (λxs H=>F xs H K X) X
def ar(as:List (EM O)):EM O:=λe H K X=>Args as e H (λxs H=>bP (fits xs) (K (.tup xs) H)) X
def az(as:List (EM O)):EM O:=λe H K X=>Args as e H (λxs H=>bP (fits xs) (K (.lst xs) H)) X
def gc(as:List (EM O)):EM O:=λe H K X=>Args as e H (λxs H=>bP (fits xs) (K (.ref H.length) (H++[.lst xs]))) X
def lR(fs:List (Str×O)):EM O:=λ_ H K _=>K (.ref H.length) (H++[.bD fs])
noncomputable def CW:O->Bool | .bi _=>LB|_=>W
def au(n:Str)(b es:List Nat)(a:EM O):EM O:=λe H K X=>a e H (λx H=>oP (iJ n b es x H) λv=>bP (CW v) (K v H)) X
def lq(a lo hi st:EM O):EM O:=λe H K X=>a e H (λx H=>lo e H (λl H=>hi e H (λh H=>st e H (λs H => oP (vh l) λl=>oP (vh h) λh=>oP (vh s) λs=>oP (wV x l h s H) λv=>K v H) X) X) X) X
def acR(bd:Bd)(x y:O):Option Bool:=(aS x).bind λs=>(aG y).bind λd=>(eM d bd).bind λa=>gd (a.all λp=>uR p.2) (Y (a.any λp=>uT s p.2))
def JU(bd:Bd)(a o:EM O):EM O:=λe H K X=>two (λx y _=>acR bd x y) a o e H (λv H=>K (.bool v) H) X
def bW(a:EM O):EM O:=λe H K X=>a e H (λx H=>oP (iZ x H) λv=>K v H) X
def jJ(f:List Nat)(a b:EM O):EM O:=λe H K X=>two (zL f) a b e H (λv H=>K (.bool v) H) X
def n6(a:EM O):EM O:=λe H K X=>a e H (λx H=>oP (listOf H x) λxs=>bP (fits xs) (K (.tup xs) H)) X
def DD(a:EM O):EM O:=λe H K X=>a e H (λx H=>oP (listOf H x) λxs=>bP (fits xs) (K (.ref H.length) (H++[.lst xs]))) X
def je(a:EM O):EM O:=λe H K X=>a e H (λx H=>oP ((aI x).bind toStr) λs=>K (.str s) H) X
def ToInt(T:List (Str×Int))(a:EM O):EM O:=λe H K X=>a e H (λx H=>oP ((aS x).bind λs=>look s T) λi=>K (.int i) H) X
set_option genCtorIdx true in
inductive Bm where
 |app|pop|ext|idx|Di
def zb(d:O)(xs:List O)(H:List MO):Option O:=(toPy H cM d).bind λa=>(eQ (toPy H cM) xs).bind λds => gd (bt (df cM) ds&&df cM a&&fits ds) ((ou a ds).bind λj=>Y (.int j))
noncomputable def CX(H:List MO)(o:Option O):Option (O×List MO):=o.bind λv=>Y (v,H)
def mV(m:Bm)(x:O)(as:List O)(H:List MO):Option (O×List MO):=match m with
 | .app=>(dQ mL H x).bind λq=>gd (fits q.2) ((one? as).bind λy=>Y (.none,H.set q.1 (.lst (q.2++[y]))))
 | .pop=>(dQ mL H x).bind λq=>gd (fits q.2) (gd as.isEmpty ((q.2.getLast?).bind λv=>Y (v,H.set q.1 (.lst q.2.dropLast))))
 | .ext=>(dQ mL H x).bind λq=>gd (fits q.2) ((one? as).bind λy=>(listOf H y).bind λys=>gd (fits (q.2++ys)) (Y (.none,H.set q.1 (.lst (q.2++ys)))))
 | .idx=>(dQ mL H x).bind λq=>gd (fits q.2) ((one? as).bind λd=>CX H (zb d q.2 H))
 | .Di=>(aT x).bind λxs=>(one? as).bind λd=>CX H (zb d xs H)
noncomputable def kM:Bm->String×String×String
 | .app=>("list", "append", "list.append")| .pop=>("list", "pop", "list.pop")| .ext=>("list", "extend", "list.extend")| .idx=>("list", "index", "list.index")
 | .Di=>("tuple", "index", "tuple.index")
noncomputable def AW:Bm->Str
 | .app=>⟨⟨[97,112,112,101,110,100]⟩⟩| .pop=>⟨⟨[112,111,112]⟩⟩| .ext=>⟨⟨[101,120,116,101,110,100]⟩⟩| .idx=>⟨⟨[105,110,100,101,120]⟩⟩
 | .Di=>⟨⟨[105,110,100,101,120]⟩⟩
def qO(x:O)(H:List MO):Option String:=alt ((dQ mL H x).bind λ_=>Y "list") (alt ((aT x).bind λ_=>Y "tuple") ((aS x).bind λ_=>Y "str"))
def l8(n:Str)(t:String):List Bm->Option Bm
 | []=>LA
 |m::r=>cond (eu n (AW m)&&(kM m).1 == t) (Y m) (l8 n t r)
noncomputable def pO:List Bm:=[.app,.pop,.ext,.idx,.Di]
def zN(x:O)(H:List MO):Option (Nat×List (Str×O)):=alt (aO x) ((dQ mI H x).bind λp=>Y p.2)
def lJ(n:Str)(tab:List (Nat×Fn))(x:O)(H:List MO):Option Fn:=(zN x H).bind λp=>(eM p.1 tab).bind λF=>gd (uS (look n p.2)) (Y F)
def aH(n:Str)(tab:List (Nat×Fn))(o:EM O)(as:List (EM O)):EM O:=λe H K X=>o e H (λx H=>eP (lJ n tab x H) (λF=>Args as e H (λxs H=>F (x::xs) H K X) X) (oP ((qO x H).bind λt=>l8 n t pO) λm=>Args as e H (λxs H=>oP (mV m x xs H) λp=>K p.1 p.2) X)) X
def excIn(a:List Nat)(xs:List O)(H:List MO):Option (List MO):=match xs with
 | []=>LA
 |x::r=>(dQ mE H x).bind λp=>gd (bJ p.2.1 a&&bf r 100) (Y (H.set p.1 (.exc p.2.1 p.2.2)))
def JQ(a:List Nat)(as:List (EM O)):EM O:=λe H K X=>Args as e H (λxs H=>oP (excIn a xs H) λH=>K .none H) X
def pN(k:Nat)(z:O)(H:List MO):Option (List MO):=(H[k]?).bind λm=>(mL m).bind λacc=>gd (fits acc) (Y (H.set k (.lst (acc++[z]))))
def lZ(k:Nat)(H:List MO)(K:bj):Prop:=oP ((H[k]?).bind mL) λxs=>K (.lst xs) (H.set k .dead)
def PJ(ifs:List (EM Bool)):EM Bool:=match ifs with
 | []=>fq
 |t::_=>t
def yh(a:EM O)(fr:En)(j k:Nat)(K:List MO->Prop)(X:KX):Nat->Nat->List MO->Prop
 |0,_,_=>False
 |n+1,i,H=>oP ((H[j]?).bind mL) λys=>eP (ys[i]?) (λy=>a (some y::fr) H (λz H=>oP (pN k z H) λH=>yh a fr j k K X n (i+1) H) X) (K H)
def og(a:EM O)(ifs:List (EM Bool))(fr:En)(k:Nat)(K:List MO->Prop)(X:KX):List O->List MO->Prop
 | [],H=>K H
 |y::r,H=>PJ ifs (some y::fr) H (λb H=>cP b (a (some y::fr) H (λz H=>oP (pN k z H) λH=>og a ifs fr k K X r H) X) (og a ifs fr k K X r H)) X
@[irreducible] def tB(a:EM O)(fr:List Nat)(b:EM O):EM O:=λe H K X=>oP (mZ fr e) λq=>a e H (λx H=>oP (dQ mL H x) λp=>yh b q p.1 H.length (λG=>lZ H.length G K) X jD 0 (H++[.lst []])) X
def Qh(x:O):Option (List O):=alt (aT x) (listOf [] x)
@[irreducible] def jt(b:EM (List O))(fr:List Nat)(a:EM O)(ifs:List (EM Bool)):EM O:=λe H K X=>oP (mZ fr e) λq=>b e H (λys H=>og a ifs q H.length (λG=>lZ H.length G K) X ys (H++[.lst []])) X
def mQ(a:EM O):EM (List O):=λe H K X=>a e H (λx H=>oP (Qh x) λys=>K ys H) X
def vk(x:O):Option (List O):=(aI x).bind λn=>gd (decide (0<=n)&&decide (n < 60000)) (Y (upTo n.toNat 0))
def SrcR(a:EM O):EM (List O):=λe H K X=>a e H (λx H=>oP (vk x) λys=>K ys H) X
def xE(X:KE)(e:En):KX:=λC fs H=>X C fs e H
def bx:SM:=λe H K _=>K .next e H
def xD:SM:=λe H K _=>K .brk e H
def mJ(b:SM)(K:KF)(X:KE):KF:=λfl e H=>match fl with | .next=>b e H K X | .brk=>K .brk e H | .ret v=>K (.ret v) e H
def ah(a b:SM):SM:=λe H K X=>a e H (mJ b K X) X
def aZ(i:Nat)(m:EM O):SM:=λe H K X=>m e H (λv H=>K .next (e.set i (Y v)) H) (xE X e)
noncomputable def nT:List Nat->List O->En->Option En
 | [],vs,e=>(match vs with | []=>Y e|_::_=>LA)
 |i::is,vs,e=>match vs with | []=>LA|v::vs=>nT is vs (e.set i (Y v))
def cX(is:List Nat)(m:EM O):SM:=λe H K X=>m e H (λv H=>oP ((aT v).bind λvs=>nT is vs e) λe=>K .next e H) (xE X e)
def cY(n:Str)(a es:List Nat)(o m:EM O):SM:=λe H K X=>m e H (λv H=>o e H (λx H=>oP (mF n a es x v H) λH=>K .next e H) (xE X e)) (xE X e)
def mN(o i m:EM O):SM:=λe H K X=>m e H (λv H=>o e H (λx H=>i e H (λj H=>oP (putItem x j v H) λH=>K .next e H) (xE X e)) (xE X e)) (xE X e)
def xT(x j:O)(H:List MO):Option Int:=(dQ mL H x).bind λp=>(idx p.2 j).bind aI
def Al(o i m:EM O):SM:=λe H K X=>o e H (λx H=>i e H (λj H=>oP (xT x j H) λa=>m e H (λv H=>oP ((aI v).bind λb=>putItem x j (.int (a+b)) H) λH=>K .next e H) (xE X e)) (xE X e)) (xE X e)
def bp(m:EM O):SM:=λe H K X=>m e H (λ_ H=>K .next e H) (xE X e)
def aU(m:EM O):SM:=λe H K X=>m e H (λv H=>K (.ret v) e H) (xE X e)
def Dz:SM:=λe H K _=>K (.ret .none) e H
def a9(t:EM Bool)(a b:SM):SM:=λe H K X=>t e H (λt H=>cP t (a e H K X) (b e H K X)) (xE X e)
noncomputable def oZ{a:Type}:List a->Bool | []=>LB|_::_=>W
def Sl(a:List Nat)(v:O)(H:List MO):Option (Nat×Nat×List (Str×O)):=(dQ mE H v).bind λp=>gd (bJ p.2.1 a&&oZ p.2.2) (Y p)
def iP(a:List Nat)(m:EM O):SM:=λe H _ X=>m e H (λv H=>oP (Sl a v H) λp=>X p.2.1 p.2.2 e (H.set p.1 .dead)) (xE X e)
def oU(go:En->List MO->Prop)(K:KF):KF:=λfl e H=>match fl with | .next=>go e H | .brk=>K .next e H | .ret v=>K (.ret v) e H
def xB(t:EM Bool)(b:SM)(K:KF)(X:KE):Nat->En->List MO->Prop
 |0,_,_=>False
 |n+1,e,H=>t e H (λg H=>cP g (b e H (oU (xB t b K X n) K) X) (K .next e H)) (xE X e)
@[irreducible] def iq(t:EM Bool)(b:SM):SM:=λe H K X=>xB t b K X jD e H
inductive Tg where
 |nm (i:Nat)|tp (is:List Nat)
def z8(t:Tg)(v:O)(e:En):Option En:=match t with
 | .nm i=>Y (e.set i (Y v))
 | .tp is=>(aT v).bind λvs=>nT is vs e
def forL(t:Tg)(b:SM)(K:KF)(X:KE):List O->En->List MO->Prop
 | [],e,H=>K .next e H
 |v::r,e,H=>oP (z8 t v e) λe=>b e H (oU (forL t b K X r) K) X
def forR(t:Tg)(b:SM)(K:KF)(X:KE)(j:Nat)(en:Bool):Nat->Nat->En->List MO->Prop
 |0,_,_,_=>False
 |n+1,i,e,H=>oP ((H[j]?).bind mL) λys=>eP (ys[i]?) (λv=>oP (z8 t (cond en (.tup [.int i,v]) v) e) λe=>b e H (oU (forR t b K X j en n (i+1)) K) X) (K .next e H)
def over(bd:Bd)(x:O):Option (List O):=alt (listOf [] x) (alt (aT x) ((aG x).bind λa=>(eM a bd).bind λb=>Y (b.map λp=>p.1.av)))
@[irreducible] def kz(bd:Bd)(t:Tg)(m:EM O)(b:SM):SM:=λe H K X=>m e H (λx H=>eP (over bd x) (λys=>forL t b K X ys e H) (oP (aR x) λj=>forR t b K X j LB jD 0 e H)) (xE X e)
@[irreducible] def pJ(t:Tg)(m:EM O)(b:SM):SM:=λe H K X=>m e H (λx H=>oP (vk x) λys=>forL t b K X ys e H) (xE X e)
@[irreducible] def tG(t:Tg)(m:EM O)(b:SM):SM:=λe H K X=>m e H (λx H=>eP (listOf [] x) (λys=>forL t b K X (zG 0 ys) e H) (oP (dQ mL H x) λp=>forR t b K X p.1 W jD 0 e H)) (xE X e)
structure Hd where
 takes:List Nat
 others:List Nat
 slot:Nat
 pF:SM
noncomputable def clean(e:En):En:=e.map λ_=>LA
def q7(K:KF):List Hd->Nat->List (Str×O)->En->List MO->Prop
 | [],_,_,_,_=>False
 |h::r,C,fs,e,H=>cP (bJ C h.takes) (h.pF (e.set h.slot (Y (.exc C fs))) H (λfl e H=>K fl (clean e) H) λ_ _ _ _=>False) (bP (bJ C h.others) (q7 K r C fs e H))
def AG(b:SM)(a:List Hd):SM:=λe H K X=>b e H K (q7 K a)
def Mw(a:Nat)(defs:List O)(xs:List O):Option (List O) :=gd (VZ a (xs.length+defs.length)&&VZ xs.length a) (Y (xs++defs.drop (xs.length+defs.length - a)))
noncomputable def eV(n:Nat):En:=amT n LA
def Aa(vs:List O)(n:Nat):En:=vs.map Y++eV n
def eA(K:bj):KF:=λfl _ H=>match fl with | .next=>K .none H | .brk=>False | .ret v=>K v H
def bz(e:Nat)(defs:List O)(a:Nat)(b:SM):Fn:=λxs H K X=>oP (Mw e defs xs) λvs=>b (Aa vs a) H (eA K) λC fs _ H=>X C fs H
def Ij(m:MO)(F:Fn):Fn:=λxs H K X=>F (.ref H.length::xs) (H++[m]) (λr G=>bP (qo r) (K (.ref H.length) G)) X
def nV(C:Nat)(F:Fn):Fn:=Ij (.inst C []) F
def An(C:Nat)(F:Fn):Fn:=λxs H K X=>bP (bf xs 100) (Ij (.exc C []) F xs H K X)
def xK(F:Fn):Fn:=λxs H K X=>F xs H (λv H=>oP (uo v H) λp=>K p.1 p.2) X
theorem Aj:iq t b e H K X=(xB t b K X jD e H):=by unfold iq;rfl
theorem ET:kz bd t m b e H K X=(m e H (λx H=>eP (over bd x) (λys=>forL t b K X ys e H) (oP (aR x) λj=>forR t b K X j LB jD 0 e H)) (xE X e)):=by unfold kz;rfl
theorem N1:tG t m b e H K X=(m e H (λx H=>eP (listOf [] x) (λys=>forL t b K X (zG 0 ys) e H) (oP (dQ mL H x) λp=>forR t b K X p.1 W jD 0 e H)) (xE X e)):=by unfold tG;rfl
theorem N4:pJ t m b e H K X=(m e H (λx H=>oP (vk x) λys=>forL t b K X ys e H) (xE X e)):=by unfold pJ;rfl
theorem yi{a:EM (List O)}{ifs:List (EM Bool)}{K:bj}:jt a fr elt ifs e H K X=(oP (mZ fr e) λq=>a e H (λys H=>og elt ifs q H.length (λG=>lZ H.length G K) X ys (H++[.lst []])) X):=by unfold jt;rfl
theorem M3{K:bj}:tB a fr elt e H K X=(oP (mZ fr e) λq=>a e H (λx H=>oP (dQ mL H x) λp=>yh elt q p.1 H.length (λG=>lZ H.length G K) X jD 0 (H++[.lst []])) X):=by unfold tB;rfl
abbrev af(s:Str):EM O:=aW (.str s)
abbrev aj(i:Int):EM O:=aW (.int i)
abbrev ak:EM O:=Loc 0
abbrev ax:EM O:=Loc 1
abbrev aD:EM O:=Loc 2
abbrev ba:EM O:=Loc 3
abbrev bw:EM O:=Loc 4
abbrev bN:EM O:=Loc 5
abbrev cq:EM O:=Loc 6
abbrev ee:EM O:=Loc 7
abbrev fX:EM O:=Loc 8
abbrev iH:EM O:=Loc 9
abbrev mz:EM O:=Loc 10
abbrev jC:EM O:=Loc 11
structure Cx where
 nm:List Str
 kd:List (Str×aaW)
 gl:List (Str×O)
 fn:List (Nat×Fn)
 me:List (Str×List (Nat×Fn))
 cm:List (Nat×List (Str×Fn))
 at_:List (Str×(List Nat×List Nat))
 st:List (Str×(List Nat×List Nat))
 dJ:List Nat
 eH:List Nat
 T:Bd
 it:List (Str×Int)
 hd:List (Nat×(List Nat×List Nat))
 qM:List (Nat×Nat)
 quiet:Bool
noncomputable def Cx.PA(c:Cx):Cx:={c with quiet:=LB,fn:=[],me:=[],cm:=[]}
noncomputable def tv:LF->Option Str | .Name x _=>Y x|_=>LA
noncomputable def JE:LF->Option Int | .Constant (.int i) _ _=>Y i|_=>LA
noncomputable def UG:LF->Option Str | .Constant (.str i) _ _=>Y i|_=>LA
noncomputable def Dm:LF->Option (LF×Str×Pos)| .Attribute o n p=>Y (o,n,p)|_=>LA
noncomputable def JD:LF->Option (LF×List LF×List ao4×Pos)| .Call f a k p=>Y (f,a,k,p)|_=>LA
noncomputable def JG:LF->Option (List LF)| .Tuple es _ _=>Y es|_=>LA
noncomputable def ah0:LF->Option (LF×LF)| .Subscript a b _=>Y (a,b)|_=>LA
noncomputable def ahY:LF->Option (Option LF×Option LF×Option LF)| .Slice a b c _=>Y (a,b,c)|_=>LA
noncomputable def JF:LF->Option (LF×List akI×ajB×Pos)| .ListComp a b c d=>Y (a,b,c,d)|_=>LA
noncomputable def kZ{a:Type}:List a->Bool | []=>W|_::_=>LB
def posOf(x:Str):List Str->Option Nat
 | []=>LA
 |y::r=>cond (eu x y) (Y 0) ((posOf x r).bind λn=>Y (n+1))
noncomputable def sS:Option aaW->Bool|some .local=>W|_=>LB
noncomputable def uY:Option aaW->Bool|some .cell=>W|_=>LB
noncomputable def Qo:Option aaW->Bool|some .globalImplicit=>W|_=>LB
noncomputable def uZ:Option aaW->Bool|some .free=>W|_=>LB
def PY(c:Cx)(x:Str):Bool:=sS (look x c.kd)||uY (look x c.kd)
def vZ(c:Cx)(x:Str):Option O:=gd (Qo (look x c.kd)) (look x c.gl)
def Q1(c:Cx)(x:Str):Option (EM O):=alt (gd (PY c x) ((posOf x c.nm).bind λi=>Y (Loc i))) ((vZ c x).bind λv=>Y (aW v))
def Mv:amr->Option (O->O->List MO->Option O)
 | .Add=>Y aQ | .Sub=>Y wX | .Mult=>Y CS | .FloorDiv=>Y fR | .Mod=>Y eX | .Pow=>Y tc
 |_=>LA
noncomputable def Q5:amr->Bool
 | .FloorDiv=>W | .Mod=>W|_=>LB
def MY(bd:Bd):amB->Option (O->O->List MO->Option Bool)
 | .Eq=>Y aX | .NotEq=>Y eN | .Lt=>Y ef | .Gt=>Y pe | .GtE=>Y qz | .Is=>Y lM | .IsNot=>Y IC | .In=>Y (dh bd)| .NotIn=>Y s9
 | .LtE=>LA
noncomputable def acU:amB->Bool | .In=>W|_=>LB
noncomputable def CI:LF->Bool
 | .Set ..=>LB
 |_=>W
def HF(t:String)(c:Cx)(e:LF):Option LF:=(JD e).bind λq=>(tv q.1).bind λx=>(vZ c x).bind λg=>(xR g).bind λs=>gd (s == t&&kZ q.2.2.1&&noStar q.2.1) (one? q.2.1)
def P1(c:Cx)(e:LF):Option LF:=HF "range" c e
def acS(c:Cx)(e:LF):Option LF:=HF "enumerate" c e
def xn(c:Cx)(x:Str):Option Nat:=gd (PY c x) (posOf x c.nm)
def slotsOf(c:Cx):List LF->Option (List Nat)
 | []=>Y []
 |e::r=>(tv e).bind λx=>(xn c x).bind λi=>(slotsOf c r).bind λis=>Y (i::is)
noncomputable def j9{a b:Type}(f:a->Option b):List a->Option (List b)
 | []=>Y []
 |x::r=>(f x).bind λy=>(j9 f r).bind λys=>Y (y::ys)
def yb(c:Cx)(n:Str):Option Nat:=gd (uY (look n c.kd)) (posOf n c.nm)
def Cd:List (Str×aaW)->List (Str×aaW)
 | []=>[]
 |p::r=>(p.1,cond (uZ (Y p.2)) .cell p.2)::Cd r
def Cc(c:Cx)(sc:ajB)(x:Str):Cx:={c with nm:=x::frees sc.names,kd:=Cd sc.names}
def wG:List Str->Bool
 | []=>W
 |x::r=>bt (λy=>b6 (eu x y)) r&&wG r
def u7(x:Str):Bool:=b6 (eu x ⟨⟨[95,95,100,101,98,117,103,95,95]⟩⟩)&&b6 (eu x ⟨⟨[95,95,99,108,97,115,115,100,105,99,116,95,95]⟩⟩)
def SX(c:Cx)(sc:ajB)(p:Str×aaW):Bool:=cond (sS (Y p.2)) (sS (look p.1 sc.names)) (b6 (uY (Y p.2))&&cond (uZ (Y p.2)) (uZ (look p.1 sc.names)&&uY (look p.1 c.kd)) W)
noncomputable def isFun:anA->Bool | .function=>W|_=>LB
def SY(c:Cx)(sc:ajB)(x:Str):Bool:=isFun sc.kind&&bt (SX c sc) sc.names&&wG (x::frees sc.names)&&u7 x&&sS (look x sc.names)
noncomputable def sP:LF->Bool
 | .ListComp ..=>W
 | .SetComp ..=>W
 | .DictComp ..=>W
 |_=>LB
structure Rc where
 E:Cx->LF->Option (EM O)
 T:Cx->LF->Option (EM Bool)
noncomputable def Ba(r:Rc)(c:Cx)(e:Option LF):Option (EM O):=match e with
 |none=>Y (aW .none)
 |some e=>r.E c e
noncomputable def Nr:PySem.Const->Option (EM O)
 | .int i=>Y (aW (.int i))
 | .str s=>Y (af s)
 | .bool b=>Y (aW (.bool b))
 | .none=>Y (aW .none)
 |_=>LA
noncomputable def e2{β:Type}(r:Rc)(c:Cx)(a b:LF)(f:EM O->EM O->β):Option β:=(r.E c a).bind λa=>(r.E c b).bind λb=>Y (f a b)
noncomputable def e1{β:Type}(r:Rc)(c:Cx)(a:LF)(f:EM O->β):Option β:=(r.E c a).bind λa=>Y (f a)
def Nl(r:Rc)(c:Cx)(a:LF)(e:amr)(b:LF):Option (EM O):=gd (cond (Q5 e) c.quiet W) ((Mv e).bind λf=>e2 r c a b (ao f))
def NA(r:Rc)(c:Cx)(b:alW)(a:LF):Option (EM O):=match b with
 | .USub=>e1 r c a (Un eE)
 | .Not=>e1 r c a Dy
 |_=>LA
def Nm(r:Rc)(c:Cx)(e:ams)(es:List LF)(p:Pos):Option (EM O):=match es with
 | []=>LA
 |a::l=>match l with
  | []=>r.E c a
  |b::l=>match e with | .And=>e2 r c a (.BoolOp e (b::l) p) mM | .Or=>e2 r c a (.BoolOp e (b::l) p) n5
def Ep{β:Type}(r:Rc)(c:Cx)(a:LF)(e:amB)(b:LF)(g:(O->O->List MO->Option Bool)->EM O->EM O->β):Option β:=gd (b6 (alQ e b)) ((MY c.T e).bind λf=>e2 r c a b (g f))
def P8(c:Cx)(a:amB)(b:LF):Option LF:=(JD b).bind λq=>(Dm q.1).bind λt => gd (acU a&&kZ q.2.1&&kZ q.2.2.1&&c.quiet&&qy t.1&&t.2.2.endLine == q.2.2.2.line&&eu t.2.1 ⟨⟨[118,97,108,117,101,115]⟩⟩) (Y t.1)
def Nq(r:Rc)(c:Cx)(a:LF)(e:List amB)(rs:List LF):Option (EM O) :=(one? e).bind λf=>(one? rs).bind λb=>alt ((P8 c f b).bind λo=>e2 r c a o (JU c.T)) (Ep r c a f b eY)
def Nu(r:Rc)(c:Cx)(t a b:LF):Option (EM O):=(r.T c t).bind λt=>e2 r c a b (dP t)
def Nz(r:Rc)(c:Cx)(es:List LF):Option (EM O):=gd (noStar es) ((j9 (r.E c) es).bind λas=>Y (ar as))
def Nv(r:Rc)(c:Cx)(es:List LF)(p:Pos):Option (EM O):=gd (noStar es) ((j9 (r.E c) es).bind λas=>Y (cond (c.qM.contains (p.line,p.col)) (gc as) (az as)))
def Nt(ks:List (Option LF))(vs:List LF):Option (EM O):=alt (gd (kZ ks&&kZ vs) (Y (lR []))) ((one? ks).bind λk=>k.bind λk=>(UG k).bind λx=>(one? vs).bind λv=>(JE v).bind λi=>Y (lR [(x,.int i)]))
def Nj(r:Rc)(c:Cx)(o:LF)(nm:Str):Option (EM O):=gd (qy o) ((look nm c.at_).bind λp=>e1 r c o (au nm p.1 p.2))
noncomputable def Nx(r:Rc)(c:Cx)(v:LF)(q:Option LF×Option LF×Option LF):Option (EM O):=(r.E c v).bind λv=>(Ba r c q.1).bind λa=>(Ba r c q.2.1).bind λb=>(Ba r c q.2.2).bind λd=>Y (lq v a b d)
def Ny(r:Rc)(c:Cx)(v i:LF):Option (EM O):=alt ((ahY i).bind λq=>Nx r c v q) (e2 r c v i (ao (aF c.T)))
def Nk(r:Rc)(c:Cx)(g:O)(b:List LF):Option (EM O) :=alt ((aG g).bind λa=>(eM a c.fn).bind λF=>(j9 (r.E c) b).bind λas=>Y (aB F as)) (alt ((KD g).bind λs=>alt (gd (s == "len") ((one? b).bind λa=>e1 r c a bW)) (gd (s == "isinstance") ((Ua b).bind λq=>e2 r c q.1 q.2 (jJ c.dJ)))) ((xR g).bind λs=>(one? b).bind λa=>alt (gd (s == "tuple") (e1 r c a n6)) (alt (gd (s == "list") (e1 r c a DD)) (alt (gd (s == "str") (e1 r c a je)) (gd (s == "int") (e1 r c a (ToInt c.it)))))))
def Nw(r:Rc)(c:Cx)(o:LF)(nm:Str)(a:List LF):Option (EM O):=(r.E c o).bind λo=>(j9 (r.E c) a).bind λas=>Y (aH nm ((look nm c.me).getD []) o as)
def Np(r:Rc)(c:Cx)(g:O)(nm:Str)(a:List LF):Option (EM O) :=alt ((aG g).bind λC=>(eM C c.cm).bind λt=>(look nm t).bind λF=>(j9 (r.E c) a).bind λas=>Y (aB F as)) ((xR g).bind λs=>gd (s == "Exception" && eu nm ⟨⟨[95,95,105,110,105,116,95,95]⟩⟩) ((j9 (r.E c) a).bind λas=>Y (JQ c.eH as)))
def Nn(r:Rc)(c:Cx)(e:LF)(a:List LF)(b:List ao4)(p:Pos):Option (EM O):=gd (kZ b&&noStar a) (alt ((tv e).bind λx=>(vZ c x).bind λg=>Nk r c g a) ((Dm e).bind λt=>gd (qy t.1&&t.2.2.endLine == p.line&&VE a.length 30) (alt ((tv t.1).bind λy=>(vZ c y).bind λg=>Np r c g t.2.1 a) (Nw r c t.1 t.2.1 a))))
def ym(r:Rc)(c:Cx)(a:LF):Option (EM (List O)):=eO (P1 c a) (λe=>e1 r c e SrcR) (e1 r c a mQ)
noncomputable def aeW:LF->Option Pos | .Name _ p=>Y p|_=>LA
def P7(c:Cx)(a:LF):Bool:=match aeW a with
 |some p=>c.qM.contains (p.line,p.col)
 |none=>LB
def Uz(a:List akI):Option (Str×LF×List LF):=(one? a).bind λg=>(tv g.target).bind λx=>gd (g.is_async == 0) (Y (x,g.iter,g.ifs))
def yl(r:Rc)(c:Cx)(b:LF)(a:List akI)(sc:ajB):Option (EM O):=(Uz a).bind λq=>gd (c.quiet&&SY c sc q.1&&CI q.2.1) ((j9 (yb c) (frees sc.names)).bind λis=>(r.E (Cc c sc q.1) b).bind λm=>alt (gd (kZ q.2.2) (cond (P7 c q.2.1) (e1 r c q.2.1 λs=>tB s is m) ((ym r c q.2.1).bind λs=>Y (jt s is m [])))) ((one? q.2.2).bind λt=>(r.T (Cc c sc q.1) t).bind λt=>(ym r c q.2.1).bind λs=>Y (jt s is m [t])))
def Om(r:Rc)(c:Cx):LF->Option (EM O)
 | .Constant k _ _=>Nr k
 | .Name x _=>Q1 c x
 | .BinOp a h b _=>Nl r c a h b
 | .UnaryOp h a _=>NA r c h a
 | .BoolOp h es p=>Nm r c h es p
 | .Compare a m rs _=>Nq r c a m rs
 | .IfExp t a b _=>Nu r c t a b
 | .Tuple es _ _=>Nz r c es
 | .List es p=>Nv r c es p
 | .Dict ks vs _=>Nt ks vs
 | .Attribute o nm _=>Nj r c o nm
 | .Subscript v i _=>Ny r c v i
 | .Call w e l p=>Nn r c w e l p
 | .ListComp j f sc _=>yl r c j f sc
 |_=>LA
def TH(r:Rc)(c:Cx)(a:LF)(e:List amB)(rs:List LF):Option (EM Bool) :=(one? e).bind λf=>(one? rs).bind λb=>Ep r c a f b aC
noncomputable def t2(r:Rc)(c:Cx)(a b:LF)(f:EM Bool->EM Bool->EM Bool):Option (EM Bool):=(r.T c a).bind λa=>(r.T c b).bind λb=>Y (f a b)
def TG(r:Rc)(c:Cx)(b:ams)(es:List LF)(p:Pos):Option (EM Bool):=match es with
 | []=>(match b with | .And=>Y fq | .Or=>Y lU)
 |a::l=>match b with | .And=>t2 r c a (.BoolOp b l p) b7 | .Or=>t2 r c a (.BoolOp b l p) gf
noncomputable def TJ(r:Rc)(c:Cx)(b:alW)(a:LF):Option (EM Bool):=match b with
 | .Not=>(r.T c a).bind λa=>Y (kD a)
 |_=>LA
def Oq(r:Rc)(c:Cx):LF->Option (EM Bool)
 | .UnaryOp e a _=>TJ r c e a
 | .BoolOp e es p=>TG r c e es p
 | .Compare a f rs _=>TH r c a f rs
 | .Name x p=>e1 r c (.Name x p) cJ
 | .Call a b d p=>e1 r c (.Call a b d p) cJ
 | .Attribute a b p=>e1 r c (.Attribute a b p) cJ
 | .Subscript a b p=>e1 r c (.Subscript a b p) cJ
 |_=>LA
def rc:Nat->Rc
 |0=>⟨λ_ _=>LA,λ_ _=>LA⟩
 |n+1=>⟨Om (rc n),Oq (rc n)⟩
def zB:List Nat->Bool
 | []=>W
 |x::r=>b6 (bJ x r)&&zB r
def Ae(c:Cx)(t:LF):Option Tg:=alt ((tv t).bind λx=>(xn c x).bind λi=>Y (.nm i)) ((JG t).bind λes=>gd (noStar es) ((slotsOf c es).bind λis=>Y (.tp is)))
def Jg:LF->Bool
 | .Tuple vs _ _=>cond (vs.all (foldedForSure 8)) W (b6 (vs.all (constantsAlone 8)))
 |_=>W
abbrev Rs:=Cx->ah7->Option SM
noncomputable def mH(S:Rs)(c:Cx):List ah7->Option SM
 | []=>Y bx
 |s::r=>match r with
  | []=>S c s
  |_::_=>(S c s).bind λa=>(mH S c r).bind λb=>Y (ah a b)
noncomputable def UC:ExceptHandler->Option (Str×Str×List ah7)| .ExceptHandler t x b _=>t.bind λt=>(tv t).bind λy=>x.bind λx=>gd (oZ b) (Y (y,x,b))
def EZ(S:Rs)(c:Cx):List ExceptHandler->Option (List Hd)
 | []=>Y []
 |h::r=>(UC h).bind λq=>(vZ c q.1).bind λg=>(aG g).bind λD=>gd (sS (look q.2.1 c.kd)) ((posOf q.2.1 c.nm).bind λi=>(eM D c.hd).bind λp=>(mH S c.PA q.2.2).bind λm=>(EZ S c r).bind λa=>Y (⟨p.1,p.2,i,m⟩::a))
def HY(c:Cx)(x:Str)(px:Pos)(sc:ajB)(p:Pos):Bool:=c.quiet&&sS (look x c.kd)&&(px.line == p.line)&&bt (λq:Str×aaW=>b6 (eu q.1 x&&(sS (Y q.2)||uY (Y q.2)))) sc.names
def agd(r:Rc)(c:Cx)(x:Str)(px:Pos)(v:LF):Option SM:=(xn c x).bind λi=>eO (JF v) (λq=>gd (HY c x px q.2.2.1 q.2.2.2) (e1 r c v (aZ i))) (gd (b6 (sP v)) (e1 r c v (aZ i)))
def SI(r:Rc)(c:Cx)(t v:LF):Option SM:=match t with
 | .Name x px=>agd r c x px v
 | .Tuple es _ _=>gd (c.quiet&&noStar es&&b6 (sP v)&&Jg v) ((slotsOf c es).bind λis=>gd (zB is) (e1 r c v (cX is)))
 | .Attribute o a _=>gd (b6 (sP v)) ((look a c.st).bind λp=>e2 r c o v (cY a p.1 p.2))
 | .Subscript o i _=>gd (b6 (sP v)) ((r.E c o).bind λo=>e2 r c i v (mN o))
 |_=>LA
noncomputable def isAdd:amr->Bool | .Add=>W|_=>LB
def SJ(r:Rc)(c:Cx)(t:LF)(a:amr)(v:LF):Option SM:=(ah0 t).bind λq=>(JE q.2).bind λi=>gd (isAdd a) (e2 r c q.1 v λo m=>Al o (aW (.int i)) m)
def SN(r:Rc)(S:Rs)(c:Cx)(t it:LF)(b:List ah7):Option SM:=gd (c.quiet&&CI it) ((Ae c t).bind λtg=>(mH S c b).bind λb=>eO (P1 c it) (λe=>e1 r c e λm=>pJ tg m b) (eO (acS c it) (λe=>(JG t).bind λ_=>e1 r c e λm=>tG tg m b) (e1 r c it λm=>kz c.T tg m b)))
def SQ(r:Rc)(c:Cx)(e:Option LF):Option SM:=match e with
 |none=>Y Dz
 |some e=>e1 r c e aU
def SK(r:Rc)(c:Cx)(e:LF):Option SM:=gd (b6 (sP e)) (e1 r c e bp)
noncomputable def SO(r:Rc)(S:Rs)(c:Cx)(t:LF)(a b:List ah7):Option SM:=(r.T c t).bind λt=>(mH S c a).bind λa=>(mH S c b).bind λb=>Y (a9 t a b)
noncomputable def SS(r:Rc)(S:Rs)(c:Cx)(t:LF)(b:List ah7):Option SM:=(r.T c t).bind λt=>(mH S c b).bind λb=>Y (iq t b)
def SP(r:Rc)(c:Cx)(e:LF):Option SM:=gd (c.quiet&&oZ c.eH) (e1 r c e (iP c.eH))
def SR(S:Rs)(c:Cx)(b:List ah7)(a:List ExceptHandler):Option SM:=gd (c.quiet&&oZ a) ((mH S c b).bind λb=>(EZ S c a).bind λa=>Y (AG b a))
def Oo(r:Rc)(S:Rs)(c:Cx):ah7->Option SM
 | .Pass _=>Y bx
 | .Break _=>Y xD
 | .Return e _=>SQ r c e
 | .Expr e _=>SK r c e
 | .Assign ts v _=>(one? ts).bind λt=>SI r c t v
 | .AugAssign t i v _=>SJ r c t i v
 | .If t a b _=>SO r S c t a b
 | .While t b e _=>gd (kZ e) (SS r S c t b)
 | .For t it b e _=>gd (kZ e) (SN r S c t it b)
 | .Raise e f _=>e.bind λe=>gd (uS f) (SP r c e)
 | .Try b h e g _=>gd (kZ e&&kZ g) (SR S c b h)
 |_=>LA
noncomputable def rs(r:Rc):Nat->Rs
 |0=>λ_ _=>LA
 |n+1=>Oo r (rs r n)
def comp(n:Nat)(c:Cx)(b:List ah7):Option SM:=mH (rs (rc n) n) c b
end
section
open PySem PySem.W PyProof.Rows PySem.Calls PySem.Spec
theorem blt_eq(a b:Nat):VE a b=decide (a < b):=by rw[amC];simp[Nat.blt_eq]
theorem tY(h:VE a b=W):a < b:=by rw[blt_eq]at h;exact aai h
theorem sY(h:b6 b=W):b=LB:=by induction b using cB with|false=>rfl|true=>exact bL h
theorem condT(h:cond b c LB=W):b=W/\c=W:=by induction b using cB with|false=>cases h|true=>exact⟨rfl,h⟩
theorem EC:∀(a b:List Nat),t6 a b=W↔a=b
 | [],[]=>by simp[t6]
 | [],_::_=>by simp[t6]
 |_::_,[]=>by simp[t6]
 |x::r,y::q=>by
  show cond (LK x y) (t6 r q) LB=W↔_;constructor
  .intro h;refine bg (condT h) λh1 e=>?_;rw[VH h1,(EC r q).mp e]
  .intro h;injection h with h1 e;subst h1;rw[ajT];exact(EC r q).mpr e
theorem q8(a b:Str):eu a b=W↔a=b:=by
 unfold eu;rw[EC];constructor
 .intro h;obtain⟨⟨a⟩⟩:=a;obtain⟨⟨b⟩⟩:=b;exact congrArg (λl=>(⟨⟨l⟩⟩: Str)) h
 .intro h;rw[h]
theorem vL(h:eu a b=W):a=b:=(q8 a b).mp h
theorem vJ(a b:Str):eu a b=(a == b):=by rw[amC,q8,ajR]
theorem oS{e:Type}(n:Str):∀(l:List (Str×e)),look n l=l.lookup n:=by
 intro l;induction l with
 |nil =>
  exact rfl
 |cons b r a =>
  obtain⟨m,v⟩:=b;exact by
   show cond (eu n m) (Y v) (look n r)=_;rw[VC,vJ,a];cases n == m<;>rfl
theorem u5{a:Type}{l:List (Str×a)}{v:a}(h:look n l=Y v):l.lookup n=Y v:=by rw[←oS];exact h
theorem IU(n:Str)(x:O):∀(l:List (Str×O)),fT n x l=cy n x l:=by
 intro l;induction l with
 |nil =>
  exact rfl
 |cons b r a =>
  obtain⟨m,v⟩:=b;exact by
   show cond (eu m n) ((m,x)::r) ((m,v)::fT n x r)=(if (m == n)=W then _ else _);rw[vJ,a];cases m == n<;>rfl
theorem QU(a:Nat):∀(l:List Nat),bJ a l=W↔a∈l:=by
 intro l;induction l with
 |nil =>
  exact by simp[bJ]
 |cons x r b =>
  exact by
   show cond (LK a x) W (bJ a r)=W↔_;rw[VM,←b,←aoV];show cond (LK a x) W (bJ a r)=W↔LK a x=W∨_;cases LK a x<;>simp
theorem kY(h:bJ a l=W):a∈l:=(QU a l).mp h
theorem AJ{a:Type}{p:a->Bool}:∀{l:List a},bt p l=W->∀x∈l,p x=W:=by
 intro l;induction l with
 |nil =>
  exact@λ_ x m=>nomatch m
 |cons y r i =>
  exact@λh x m=>by
   refine bg (condT (b:=p y) (c:=bt p r) h) λh1 f=>?_;rcases VM.mp m with e|m
   .rw[e];exact h1
   .exact i f x m
theorem mR{a:Type}(p:a->Bool):∀(l:List a),bt p l=l.all p:=by
 intro l;induction l with
 |nil =>
  exact rfl
 |cons x r b =>
  exact by show cond (p x) (bt p r) LB=_;rw[b,alS];cases p x<;>rfl
theorem zE(b:Bool):b6 b = !b:=by cases b<;>rfl
theorem zv{e:Type}{a b:Nat}{v w:e}{l:List (Nat×e)}{P:Prop}(h:eM b ((a,v)::l)=Y w)(k:b=a->v=w->P)(k2:eM b l=Y w->P):P:=by
 have h:cond (LK b a) (Y v) (eM b l)=Y w:=h;cases q:LK b a with
 |true=>rw[q]at h;exact k (VH q) (LC h)
 |false=>rw[q]at h;exact k2 h
theorem H5{e:Type}{a b:Str}{v w:e}{l:List (Str×e)}{P:Prop}(h:look b ((a,v)::l)=Y w)(k:b=a->v=w->P)(k2:look b l=Y w->P):P:=by
 have h:cond (eu b a) (Y v) (look b l)=Y w:=h;cases q:eu b a with
 |true=>rw[q]at h;exact k (vL q) (LC h)
 |false=>rw[q]at h;exact k2 h
theorem Bc(a b:Int):Bb a b=W↔a=b:=by
 cases a<;>cases b
 .exact(iff_of_eq aoV).trans ⟨λh=>congrArg Int.ofNat h,λh=>Int.ofNat.inj h⟩
 .constructor<;>intro h<;>cases h
 .constructor<;>intro h<;>cases h
 .exact(iff_of_eq aoV).trans ⟨λh=>congrArg Int.negSucc h,λh=>Int.negSucc.inj h⟩
theorem NG(a b:AK):pV a b=W↔a=b:=by
 cases a<;>cases b<;>first|(simp[pV,Bc,q8];done)|(simp[pV,Bc,q8];exact⟨λe=>e▸rfl,λe=>by cases e;rfl⟩)
theorem Qy(k:AK):∀l:List (AK×O),zu k l=l.lookup k:=by
 intro l;induction l with
 |nil =>
  exact rfl
 |cons b r a =>
  obtain⟨x,v⟩:=b;exact by
   show cond (pV k x) (Y v) (zu k r)=_;rw[VC,a];have:(k == x)=pV k x:=by rw[amC,NG,ajR]
   rw[this];cases pV k x<;>rfl
theorem agi(a b:AK):SW a b=zZ a b:=by cases a<;>cases b<;>rfl
theorem iI{e:Type}{l:List e}{a:e}(h:one? l=Y a):l=[a]:=by
 induction l using cL with|nil=>cases h|cons b r=>induction r using cL with|nil=>have f:=LC h;clear h;subst f;rfl|cons _ _=>exact bR h
theorem Ub{a:Type}{l:List a}{p:a×a}(h:Ua l=Y p):l=[p.1,p.2]:=by
 induction l using cL with|nil=>cases h|cons b r=>exact bK h λc e h=>by rw[iI e];have f:=LC h;clear h;subst f;rfl
theorem lK{a:Type}{l:List a}(h:kZ l=W):l=[]:=by induction l using cL with|nil=>rfl|cons _ _=>exact bL h
theorem Ck{a:Type}{x:Option a}(h:uS x=W):x=LA:=by induction x using cO with|none=>rfl|some _=>exact bL h
theorem lV(h:aI x=Y i):x = .int i:=eT (K:=λi=>x = .int i) (by cases x<;>first|exact trivial|exact rfl) h
theorem kJ(h:aS x=Y i):x = .str i:=eT (K:=λi=>x = .str i) (by cases x<;>first|exact trivial|exact rfl) h
theorem n7(h:aT x=Y i):x = .tup i:=eT (K:=λi=>x = .tup i) (by cases x<;>first|exact trivial|exact rfl) h
theorem DK(h:aR x=Y i):x = .ref i:=eT (K:=λi=>x = .ref i) (by cases x<;>first|exact trivial|exact rfl) h
theorem tV(h:aG x=Y i):x = .gl i:=eT (K:=λi=>x = .gl i) (by cases x<;>first|exact trivial|exact rfl) h
theorem KG(h:KD x=Y i):x = .bi i:=eT (K:=λi=>x = .bi i) (by cases x<;>first|exact trivial|exact rfl) h
theorem AI(h:xR x=Y i):x = .ty i:=eT (K:=λi=>x = .ty i) (by cases x<;>first|exact trivial|exact rfl) h
theorem DJ{p:Nat×List (Str×O)}(h:aO x=Y p):x = .obj p.1 p.2:=eT (K:=λp=>x = .obj p.1 p.2) (by cases x<;>first|exact trivial|exact rfl) h
theorem YJ{p:Nat×List (Str×O)}(h:aE x=Y p):x = .exc p.1 p.2:=eT (K:=λp=>x = .exc p.1 p.2) (by cases x<;>first|exact trivial|exact rfl) h
theorem bT(h:cP b p True)(e:b=W):p:=by rw[e]at h;exact h
theorem wk(h:qo x=W):x = .none:=bT (by cases x<;>first|exact trivial|exact rfl) h
theorem QQ(h:mL m=Y l):m = .lst l:=eT (K:=λl=>m = .lst l) (by cases m<;>first|exact trivial|exact rfl) h
theorem H8(h:mD m=Y l):m = .bD l:=eT (K:=λl=>m = .bD l) (by cases m<;>first|exact trivial|exact rfl) h
theorem adK{p:Nat×List (Str×O)}(h:mI m=Y p):m = .inst p.1 p.2:=eT (K:=λp=>m = .inst p.1 p.2) (by cases m<;>first|exact trivial|exact rfl) h
theorem adJ{p:Nat×List (Str×O)}(h:mE m=Y p):m = .exc p.1 p.2:=eT (K:=λp=>m = .exc p.1 p.2) (by cases m<;>first|exact trivial|exact rfl) h
theorem atK{b:Type}{g:MO->Option b}{H:List MO}{x:O}{p:Nat×b}{P:Prop}(h:dQ g H x=Y p)(k:∀m,x = .ref p.1->H[p.1]?=Y m->g m=Y p.2->P):P :=bK h λi hi h=>bK h λm hm h=>bK h λa e h=>by have f:=LC h;clear h;subst f;exact k m (DK hi) hm e
theorem uq{H:List MO}{k:Nat}{m:MO}{l:List O}(h:H[k]?=Y m)(g:mL m=Y l):H[k]?=Y (.lst l):=by rw[h,QQ g]
theorem zx(e:listOf H x=Y xs):x = .lst xs∨∃k,x = .ref k/\H[k]?=Y (.lst xs):=by
 cases x
 case lst=>have a:=LC e;clear e;subst a;exact .inl rfl
 case ref k=>exact .inr ⟨k,rfl,u4.mp e⟩
 all_goals exact bR e
theorem Cv(e:listOf [] x=Y xs):x = .lst xs:=by
 cases x
 case lst=>have a:=LC e;clear e;subst a;rfl
 all_goals exact bR e
theorem IV(e:listOf H y=Y ys)(h:eQ (toPy H cM) ys=Y ds):toPy H (cM+1) y=Y (.list ds):=by
 rcases zx e with e|⟨k,e,a⟩
 .rw[e];show(eQ (toPy H cM) ys).map ak8=_;rw[h];rfl
 .rw[e];show(((H[k]?).bind zw).bind λxs=>(eQ (toPy H cM) xs).map ak8)=_;rw[a];show(eQ (toPy H cM) ys).map ak8=_;rw[h];rfl
theorem Tf:(60000:Nat)<=WE:=by decide
theorem eg{a:Type}:∀{l:List a}{n:Nat},bf l n=W->l.length<=n
 | [],n,_=>aeN n
 |_::r,0,h=>nomatch h
 |_::r,n+1,h=>VT (eg (l:=r) h)
theorem cC{a:Type}:∀{l:List a}{n:Nat},l.length<=n->bf l n=W
 | [],n,_=>rfl
 |_::r,0,h=>absurd h (alv _)
 |_::r,n+1,h=>cC (l:=r) (ada h)
theorem BL{a:Type}{l:List a}(h:fits l=W):l.length<=60000:=eg h
theorem ES{e:Type}{a b:List e}(h:fits (a++b)=W):a.length+b.length<=60000:=by rw[←LN];exact eg h
theorem KS{e:Type}{a b:List e}(h:fits (a++b)=W):a.length+b.length<=WE:=LI (ES h) Tf
theorem lF{a:Type}{l:List a}(h:fits l=W):l.length<=WE:=LI (BL h) Tf
theorem Tq(h:qH a=W):a.natAbs < 4611686018427387904:=tY h
theorem Tp(h:qH a=W):alz a<=64:=intBits_le_iff.mpr (aj9 (Tq h) (by decide))
theorem pE{a:Int}(h:qH a=W): -(2 ^ 63)<=a/\a < 2 ^ 63 :=
 have l:((a.natAbs:Nat):Int)< 2 ^ 63:=ahH.mpr (aj9 (Tq h) (by decide))
 ⟨Int.neg_le_of_neg_le (apr (Int.natAbs_neg a▸api) (amt l)),anB api l⟩
theorem natAbs_pos{b:Int}(h:VE 0 b.natAbs=W):b≠0:=λe=>by rw[e]at h;exact bL h
theorem ny{e:Type}{x y:O}{f:Int->Int->Option e}{v:e}{P:O->O->Prop}(h:iG x y f=Y v)(k:∀a b,f a b=Y v->P (.int a) (.int b)):P x y :=bK h λa i h=>bK h λb hb h=>by rw[lV i,lV hb];exact k a b h
theorem Jf{e:Type}{x y:O}{f:Str->Str->Option e}{v:e}{P:O->O->Prop}(h:((aS x).bind λa=>(aS y).bind λb=>f a b)=Y v)(k:∀a b,f a b=Y v->P (.str a) (.str b)):P x y :=bK h λa i h=>bK h λb hb h=>by rw[kJ i,kJ hb];exact k a b h
section
variable{c:GC}
def ky(c:GC)(F:O->O->List MO->Option O)(t:LD->LD->Sem LD):Prop :=∀{f:Fc}{l:Lc}{σ:Sg}{Q:QV}{X:QX}{x y v:O},F x y σ.H=Y v->Q v σ->bY c f t x y l σ Q X
def ij(c:GC)(F:O->O->List MO->Option Bool)(t:LD->LD->Sem LD):Prop :=∀{f:Fc}{l:Lc}{σ:Sg}{Q:QV}{X:QX}{x y:O}{b:Bool},F x y σ.H=Y b->Q (.bool b) σ->bY c f t x y l σ Q X
theorem UR:ky c aQ (ajw .Add):=λ{f l σ Q X x y v} h q=>aK h (λh=>ny (P:=λx y=>bY c f _ x y l σ Q X) h λa b h=>Wb (sK (P:=λv=>Q v σ) h.symm q)) λh=>aK h (λh=>Jf (P:=λx y=>bY c f _ x y l σ Q X) h λa b h=>gK h λz h=>We (sK (P:=λv=>Q v σ) h.symm q) (KS z)) λh=>bK h λxs e h=>bK h λys i h=>gK h λz h=>Wc e i (KS z) (sK (P:=λv=>Q v σ) h.symm q)
theorem UY:ky c wX (ajw .Sub):=λ{f l σ Q X x y v} h q=>ny (P:=λx y=>bY c f _ x y l σ Q X) h λa b h=>WX (sK (P:=λv=>Q v σ) h.symm q)
theorem UW:ky c CS (ajw .Mult):=λ{f l σ Q X x y v} h q=>ny (P:=λx y=>bY c f _ x y l σ Q X) h λa b h=>aK h (λh=>gK h λk h=>J3 (sK (P:=λv=>Q v σ) h.symm q) (IntMulOk.of_left (Tp k))) λh=>gK h λk h=>J3 (sK (P:=λv=>Q v σ) h.symm q) (IntMulOk.of_right (Tp k))
theorem US(hq:c.quiet=W):ky c fR (ajw .FloorDiv):=λ{f l σ Q X x y v} h q=>ny (P:=λx y=>bY c f _ x y l σ Q X) h λa b h=>gK h λz h=>aY z λe i=>Wn hq (natAbs_pos e) (tY i) (sK (P:=λv=>Q v σ) h.symm q)
theorem UU(hq:c.quiet=W):ky c eX (ajw .Mod):=λ{f l σ Q X x y v} h q=>ny (P:=λx y=>bY c f _ x y l σ Q X) h λa b h=>gK h λz h=>Wo hq (natAbs_pos z) (sK (P:=λv=>Q v σ) h.symm q)
theorem UX:ky c tc (ajw .Pow):=λ{f l σ Q X x y v} h q=>ny (P:=λx y=>bY c f _ x y l σ Q X) h λa b h=>gK h λz h=>aY z λe i=>WS (aai e) (aai i) (sK (P:=λv=>Q v σ) h.symm q)
theorem Zg{F}(h:Mv op=Y F)(hq:Q5 op=W->c.quiet=W):ky c F (ajw op):=by
 cases op<;>first|(cases h;done)|skip
 .exact sK (P:=λF=>ky c F _) h UR
 .exact sK (P:=λF=>ky c F _) h UY
 .exact sK (P:=λF=>ky c F _) h UW
 .exact sK (P:=λF=>ky c F _) h (UU (hq rfl))
 .exact sK (P:=λF=>ky c F _) h UX
 .exact sK (P:=λF=>ky c F _) h (US (hq rfl))
theorem agW(h:bt (λx=>VE x 1114112) s.cps.toList=W):aps s=W:=by
 unfold aps;rw[←Array.all_toList,UA]
 exactλx m=>VW (tY (AJ h x m))
theorem CN(i:∀d,df n d=W->d.canLay0=W/\d.depth<=n):∀l:List ajY,bt (df n) l=W->ace l=W/\als l<=n:=by
 intro l;induction l with
 |nil =>
  exact@λ_=>⟨rfl,aeN _⟩
 |cons d r e =>
  exact@λh=>by
   refine bg (condT (b:=df n d) (c:=bt (df n) r) h) λh1 f=>?_;refine bg (i d h1) λa b=>?_;refine bg (e f) λa' j=>?_;exact⟨by simp[ace,a,a'],by simp[als];lia⟩
theorem s6:∀n d,df n d=W->d.canLay0=W/\d.depth<=n
 |0,d,h=>nomatch h
 |n+1,.none,h=>⟨rfl,by simp[akV]⟩
 |n+1,.bool _,h=>⟨rfl,by simp[akV]⟩
 |n+1,.int _,h=>⟨rfl,by simp[akV]⟩
 |n+1,.str s,h=>⟨agW h,by simp[akV]⟩
 |n+1,.tuple l,h=>by have k:=CN (s6 n) l h;exact⟨k.1,by simp[akV];exact k.2⟩
 |n+1,.list l,h=>by have k:=CN (s6 n) l h;exact⟨k.1,by simp[akV];exact k.2⟩
 |n+1,.dict _,h=>nomatch h
theorem RF{d:ajY}(h:df cM d=W):aj7 d=W:=by
 have k:=s6 _ _ h;have e:d.depth<=50:=k.2;unfold aj7;rw[k.1,Bool.true_and];exact VW (by lia)
theorem RE(h:df cM d=W):d.depth<=60:=LI (s6 _ _ h).2 (by decide)
theorem RZ{H:List MO}{x y:O}{b:Bool}{P:Prop}(h:kj x y H=Y b)(k:∀d e,toPy H cM x=Y d->toPy H cM y=Y e->aj7 d=W->aj7 e=W->b=VV d e->P):P :=bK h λd a h=>bK h λe he h=>gK h λz h=>aY z λf i=>k d e a he (RF f) (RF i) (LC h).symm
theorem ln2{H:List MO}{x y:O}{b:Bool}{P:Prop}(h:oO x y H=Y b)(k:∀xs ys,listOf H x=Y xs->listOf H y=Y ys->xs.length≠ys.length->b=LB->P):P :=bK h λd a h=>bK h λe he h=>gK h λz h=>k d e a he (aku (sY z)) (LC h).symm
theorem K_eq:ij c aX (VK .Eq):=λ{f l σ Q X x y b} h q=>aK h (λh=>ny (P:=λx y=>bY c f _ x y l σ Q X) h λa b h=>Wj (sK (P:=λv=>Q (.bool v) σ) h.symm q)) λh=>aK h (λh=>Jf (P:=λx y=>bY c f _ x y l σ Q X) h λa b h=>Wm (sK (P:=λv=>Q (.bool v) σ) h.symm q)) λh=>aK h (λh=>ln2 h λxs ys j m p e=>Wk j m p (e▸q)) λh=>RZ h λd e i he s1 w e=>Wl _ _ i he s1 w (e▸q)
theorem VA:ij c eN (VK .NotEq):=λ{f l σ Q X x y b} h q=>bK h λA h i=>have q:=sK (P:=λv=>Q (.bool v) σ) i.symm q;aK h
 (λh=>ny (P:=λx y=>bY c f _ x y l σ Q X) h λa b h=>WH (sK (P:=λv=>Q (.bool (!v)) σ) h.symm q))
 λh=>aK h (λh=>Jf (P:=λx y=>bY c f _ x y l σ Q X) h λa b h=>WL (sK (P:=λv=>Q (.bool (!v)) σ) h.symm q))
 λh=>aK h (λh=>ln2 h λxs ys m p w e=>WI m p w (by rw[e]at q;exact q)) λh=>RZ h λd e j he s1 z e=>WJ _ _ j he s1 z (e▸q)
theorem Vz:ij c ef (VK .Lt):=λ{f l σ Q X x y v} h q=>ny (P:=λx y=>bY c f _ x y l σ Q X) h λa b h=>WG (sK (P:=λv=>Q (.bool v) σ) h.symm q)
theorem Vu:ij c pe (VK .Gt):=λ{f l σ Q X x y v} h q=>ny (P:=λx y=>bY c f _ x y l σ Q X) h λa b h=>Wr (sK (P:=λv=>Q (.bool v) σ) h.symm q)
theorem Vt:ij c qz (VK .GtE):=λ{f l σ Q X x y v} h q=>ny (P:=λx y=>bY c f _ x y l σ Q X) h λa b h=>Wq (sK (P:=λv=>Q (.bool v) σ) h.symm q)
theorem Vv:ij c lM (VK .Is):=λ{f l σ Q X x y v} h q=>gK h λz h=>by rw[wk z];exact Wy (sK (P:=λv=>Q (.bool v) σ) h.symm q)
theorem Vy:ij c IC (VK .IsNot):=λ{f l σ Q X x y v} h q=>gK h λz h=>by rw[wk z];exact Wz (sK (P:=λv=>Q (.bool v) σ) h.symm q)
def lh(c:GC)(bd:Bd):Prop:=∀a b,eM a bd=Y b->gX c a b
theorem PO{H:List MO}{x:O}{ys:List O}{b:Bool}{P:Prop}(h:uQ x ys H=Y b)(k:∀d ds,toPy H cM x=Y d->eQ (toPy H cM) ys=Y ds->ace ds=W->d.canLay0=W->d.depth<=60->b=(ds.any λy=>VV y d)->P):P:=bK h λd e h=>bK h λds f h=>gK h λz h=>aY z λi a=>k d ds e f (CN (s6 _) _ i).1 (s6 _ _ a).1 (RE a) (LC h).symm
theorem P5{a:Type}(o:Option a):nB o=o.isSome:=by cases o<;>rfl
theorem PN{f:Fc}{l:Lc}{σ:Sg}{x y:O}{b:Bool}(h:wU x y σ.H=Y b): (∀{Q:QV}{X:QX},Q (.bool b) σ->bY c f (VK .In) x y l σ Q X)/\(∀{Q:QV}{X:QX},Q (.bool (!b)) σ->bY c f (VK .NotIn) x y l σ Q X):=aK h
 (λh=>bK h λG hb h=>bK h λa C h=>by
  rw[kJ hb,kJ C];have h:=LC h;rw[←h];exact⟨Ww,WQ⟩)
 λh=>aK h (λh=>bK h λys B h=>PO h λd ds i j w z A e=>by rw[n7 B,e];exact⟨Wx _ _ i j w z A,WR _ _ i j w z A⟩)
 λh=>aK h (λh=>bK h λys B h=>PO h λd ds i j w z A e=>by rw[e];exact⟨Wv _ _ i (IV B j) w z A,WO _ _ i (IV B j) w z A⟩)
 λh=>bK h λp D h=>bK h λs E h=>atK D λm e hm g=>by
  rw[H8 g]at hm;have h:=LC h;rw[P5,oS]at h;rw[←h,kJ E,e];exact⟨Wu hm,WN hm⟩
theorem VB:ij c s9 (VK .NotIn):=λ{f l σ Q X x y b} h q=>bK h λe h a=>(PN h).2 (sK (P:=λv=>Q (.bool v) σ) a.symm q)
theorem adi(h:keyOf x=Y k):x=k.av:=aK h (λh=>bK h λi hi h=>by have a:=LC h;clear h;subst a;exact lV hi) λh=>bK h λi hi h=>by have a:=LC h;clear h;subst a;exact kJ hi
theorem Mq{bd:Bd}(D:lh c bd){x y:O}{p:List (AK×O)×AK}{P:Prop}(h:AQ bd x y=Y p)(k:∀a,x = .gl a->y=p.2.av->gX c a p.1->(∃q r,p.1=q::r/\zZ q.1 p.2=W)->P):P :=
 bK h λa f h=>bK h λe i h=>bK h λl b h=>gK h λz h=>by
  have j:=LC h;clear h;subst j;refine k a (tV f) (adi b) (D _ _ i) ?_;induction e using cL with
  |nil=>exact bL z
  |cons q r=>exact⟨q,r,rfl,(agi _ _).symm.trans z⟩
theorem Vx{bd:Bd}(D:lh c bd):ij c (dh bd) (VK .In):=λ{f l σ Q X x y b} h q=>aK h
 (λh=>bK h λp e h=>Mq D e λa e1 e2 B ks=>by
  have h:=LC h;rw[P5,Qy]at h;rw[e1,e2];exact Wt B ks (by rw[h];exact q))
 λh=>(PN h).1 q
theorem Z8(D:lh c bd){F}(h:MY bd op=Y F):ij c F (VK op):=by
 cases op
 .exact sK (P:=λF=>ij c F _) h K_eq
 .exact sK (P:=λF=>ij c F _) h VA
 .exact sK (P:=λF=>ij c F _) h Vz
 .cases h
 .exact sK (P:=λF=>ij c F _) h Vu
 .exact sK (P:=λF=>ij c F _) h Vt
 .exact sK (P:=λF=>ij c F _) h Vv
 .exact sK (P:=λF=>ij c F _) h Vy
 .exact sK (P:=λF=>ij c F _) h (Vx D)
 .exact sK (P:=λF=>ij c F _) h VB
theorem PI{P:O->Prop}(h:idx xs y=Y v)(k:∀i j,qH i=W->aeO i xs.length=Y j->xs[j]?=Y v->P (.int i)):P y :=bK h λi hi h=>gK h λz h=>bK h λj a h=>by rw[lV hi];exact k i j z a h
theorem UT{bd:Bd}(D:lh c bd)(w b:LF):ky c (aF bd) (ajn w b):=λ{f l σ Q X x y v} h q=>aK h
 (λh=>bK h λxs E h=>PI (P:=λy=>bY c f _ x y l σ Q X) h λi j z e1 e2=>by rw[n7 E];exact Xd e1 (pE z).1 (pE z).2 e2 q)
 λh=>aK h (λh=>bK h λxs E h=>PI (P:=λy=>bY c f _ x y l σ Q X) h λi j z e1 e2=>by
  rcases zx E with e|⟨k,e,H⟩
  .rw[e];exact Xa e1 (pE z).1 (pE z).2 e2 q
  .rw[e];exact Xb H e1 (pE z).1 (pE z).2 e2 q)
 λh=>aK h (λh=>bK h λs C h=>bK h λi hi h=>gK h λz h=>bK h λI G h=>by
  rw[kJ C,lV hi];exact Xc (pE z).1 (pE z).2 G (sK (P:=λv=>Q v σ) h.symm q))
 λh=>aK h (λh=>bK h λp A h=>Mq D A λa e1 e2 B ks=>by rw[e1,e2];rw[Qy]at h;exact WY B ks h q)
 λh=>bK h λp A h=>bK h λs C h=>atK A λm e hm g=>by rw[H8 g]at hm;rw[e,kJ C];exact WZ hm (u5 h) q
theorem XC{f:Fc}{l:Lc}{σ:Sg}{Q:QV}{X:QX}{x v:O}{lo hi st:Option Int}{i a:LF}(h:wV x lo hi st σ.H=Y v)(q:Q v σ):vr c f i a x lo hi st l σ Q X:=aK h
 (λh=>bK h λs A h=>gK h λz h=>aY z λj m=>by rw[kJ A];exact V9 (sY j) (lF m) (sK (P:=λv=>Q v σ) h.symm q))
 λh=>aK h (λh=>bK h λxs p h=>gK h λz h=>aY z λj m=>by
  have w:st≠Y 0:=λe=>by rw[e]at j;exact bL j
  rcases zx p with e|⟨k,e,y⟩
  .rw[e];exact V7 w (lF m) (sK (P:=λv=>Q v σ) h.symm q)
  .rw[e];exact V8 y w (lF m) (sK (P:=λv=>Q v σ) h.symm q))
 λh=>bK h λxs p h=>bK h λb hb h=>gK h λz h=>aY z λz D=>aY z λz C=>aY z λz B=>aY z λj m=>by
  have e:b=(b.toNat:Int):=(ano (aai B)).symm;rw[n7 p,Ck j,Ck m,hb,e];exact Wa (tY C) (lF D) (sK (P:=λv=>Q v σ) h.symm q)
end
def As(T:List (Str×Int)):Prop:=∀s i,look s T=Y i->am2 s=Y i/\s.length<=640
structure Aq (K:aeb) (dJ:List Nat):Prop where
 self:∀D∈dJ,isIn K (.ref D) D=W/\JV K D/\kitOne K (.type "NoneType") (.ref D)=Y LB
 gn:∀C∈dJ,∀D∈dJ,C≠D->kin_not K C D=W
 str:kitOne K (.type "str") (.type "str")=Y W/\kitOne K (.type "list") (.type "str")=Y LB
def Ak(K:aeb)(nm:Str)(p:List Nat×List Nat):Prop:=(∀C∈p.1,jH K C/\tD K C nm)/\∀C∈p.2,Ao K C/\aeJ K (.ref C) nm=Y LA
def AE(K:aeb)(nm:Str)(p:List Nat×List Nat):Prop:=(∀C∈p.1,jH K C/\tD K C nm) /\ ∀C∈p.2,aeJ K (.ref C) "__setattr__" = Y (Y (.builtin "object.__setattr__"))/\vN K C=W/\ak1 K C nm=Y LA/\ajM K C=W
def Ap(c:GC)(a:List Nat):Prop:=∀C∈a,∃b,tC c C b
section
variable{c:GC}{f:Fc}{l:Lc}{σ:Sg}{Q:QV}{X:QX}
theorem AF{Q:QB}(h:xu x=Y b)(q:Q b σ):pM c f x l σ Q X:=by
 cases x
 case bool=>exact Kg (sK (P:=λb=>Q b σ) h.symm q)
 case none=>exact XF (sK (P:=λb=>Q b σ) h.symm q)
 case int=>exact XD (sK (P:=λb=>Q b σ) h.symm q)
 all_goals exact bR h
theorem IQ(h:CW y=W):y.wH=W:=by cases y<;>first|rfl|exact bL h
theorem Dn{x:O}{p:Nat×Nat×List (Str×O)}{P:Prop}(h:dQ mI σ.H x=Y p)(k:x = .ref p.1->σ.H[p.1]?=Y (.inst p.2.1 p.2.2)->P):P:=atK h λm e hm g=>k e (by rw[←adK g];exact hm)
theorem DQ{x:O}{p:Nat×Nat×List (Str×O)}{P:Prop}(h:dQ mE σ.H x=Y p)(k:x = .ref p.1->σ.H[p.1]?=Y (.exc p.2.1 p.2.2)->P):P:=atK h λm e hm g=>k e (by rw[←adJ g];exact hm)
theorem qP{x:O}{p:Nat×List O}{P:Prop}(h:dQ mL σ.H x=Y p)(k:x = .ref p.1->σ.H[p.1]?=Y (.lst p.2)->P):P:=atK h λm e hm g=>k e (by rw[←QQ g];exact hm)
theorem UK{x:O}{p:Nat×List (Str×O)}{P:Prop}(h:dQ mD σ.H x=Y p)(k:x = .ref p.1->σ.H[p.1]?=Y (.bD p.2)->P):P:=atK h λm e hm g=>k e (by rw[←H8 g];exact hm)
theorem UP{nm:Str}{p:List Nat×List Nat}{x v:O}{b:Bool}(ok:Ak c.K nm p)(h:iJ nm p.1 p.2 x σ.H=Y v)(j:CW v=W)(q:Q v σ):qW c f (λv=>alE v nm b) x l σ Q X:=aK h
 (λh=>bK h λr i h=>gK h λz h=>by rw[DJ i];have a:=ok.1 _ (kY z);exact Wg a.1 a.2 (u5 h) (IQ j) q)
 λh=>aK h (λh=>bK h λr i h=>gK h λz h=>by rw[YJ i];have a:=ok.2 _ (kY z);exact Wf a.1 a.2 (u5 h) (IQ j) q)
 λh=>bK h λr i h=>gK h λz h=>Dn i λe m=>by rw[e];have a:=ok.1 _ (kY z);exact Wi m a.1 a.2 (u5 h) (IQ j) q
theorem Xm{nm:Str}{p:List Nat×List Nat}{x v:O}{H':List MO}{Q:Sg->Prop}(ok:AE c.K nm p)(h:mF nm p.1 p.2 x v σ.H=Y H')(q:∀b:Sg,b.H=H'->Q b):Av c f (λv w=>anF v nm w) x v l σ Q X:=aK h
 (λh=>bK h λr j h=>gK h λz h=>aY z λm y=>Dn j λe i=>by
  rw[e];have a:=ok.1 _ (kY m);exact WT i a.1 a.2 (eg y) λb e=>q b (by rw[e,←IU];exact LC h))
 λh=>bK h λr j h=>gK h λz h=>aY z λm y=>DQ j λe i=>by
  rw[e];have a:=ok.2 _ (kY m);exact WU i a.1 a.2.1 a.2.2.1 a.2.2.2 (eg y) λb e=>q b (by rw[e,←IU];exact LC h)
theorem Ka{x i v:O}{H':List MO}{Q:Sg->Prop}(h:putItem x i v σ.H=Y H')(q:∀a:Sg,a.H=H'->Q a):xN c f alF x i v l σ Q X:=aK h
 (λh=>bK h λr j h=>bK h λs y h=>gK h λz h=>UK j λe b=>by
  rw[e,kJ y];exact WV b (lF z) λa e=>q a (by rw[e,←IU];exact LC h))
 λh=>bK h λr j h=>bK h λi hi h=>gK h λz h=>aY z λz w=>aY z λm p=>qP j λe b=>by
  have m:=aai m;have p:=tY p;have w:=BL w;rw[e,lV hi];exact WW b m (by omega) (by omega) λa e=>q a (by rw[e];exact LC h)
theorem BK{a:Type}{l:List a}(h:fits l=W):l.length<=2 ^ 62:=LI (BL h) (by decide)
theorem V0{x v:O}(h:iZ x σ.H=Y v)(q:Q v σ):eZ c f (.builtin "len") [x] l σ Q X:=aK h
 (λh=>bK h λxs b h=>gK h λz h=>by
  rcases zx b with e|⟨k,e,a⟩
  .rw[e];exact U7 (BK z) (sK (P:=λv=>Q v σ) h.symm q)
  .rw[e];exact U8 a (BK z) (sK (P:=λv=>Q v σ) h.symm q))
 λh=>aK h (λh=>bK h λxs b h=>gK h λz h=>by rw[n7 b];exact U9 (BK z) (sK (P:=λv=>Q v σ) h.symm q))
 λh=>bK h λr i h=>gK h λz h=>UK i λe a=>by rw[e];exact U6 a (BK z) (sK (P:=λv=>Q v σ) h.symm q)
theorem PR{x:O}{C:Nat}(h:MW x σ.H=Y C):tI σ x C:=aK h
 (λh=>bK h λp a h=>by rw[DJ a];exact sK h .obj) λh=>bK h λp a h=>Dn a λe b=>by rw[e];exact sK h (.ref b)
theorem Vm(ok:Aq c.K dJ)(h:zL dJ x y σ.H=Y b)(q:Q (.bool b) σ):eZ c f (.builtin "isinstance") [x,y] l σ Q X:=aK h
 (λh=>bK h λD j h=>gK h λm h=>by
  have d:=ok.self _ (kY m);rw[tV j];exact aK h (λh=>bK h λC i h=>gK h λz h=>by
   have h:=LC h;cases e:LK C D with
   |true=>rw[e]at h;rw[←h]at q;exact U5 (VH e▸PR i) d.1 q
   |false=>rw[e]at h;rw[←h]at q;exact U4 (PR i) (ok.self _ (kY z)).2.1 (ok.gn _ (kY z) _ (kY m) (aku e)) q)
   λh=>gK h λz h=>by rw[wk z];exact Dq (T:="NoneType") rfl rfl d.2.2 (sK (P:=λb=>Q (.bool b) σ) h.symm q))
 λh=>bK h λs p h=>gK h λz h=>by
  rw[AI p,eq_of_beq z];exact aK h (λh=>bK h λt a h=>by rw[kJ a];exact Dq (T:="str") rfl rfl ok.str.1 (sK (P:=λb=>Q (.bool b) σ) h.symm q))
   λh=>bK h λt a h=>by rw[Cv a];exact Dq (T:="list") rfl rfl ok.str.2 (sK (P:=λb=>Q (.bool b) σ) h.symm q)
theorem Zt(m:Bm):PlainAttrs (kM m).1/\Slot (kM m).1 (kM m).2.1 (kM m).2.2/\amZ (.builtin (kM m).2.2)=pure (.type "method_descriptor"):=by
 cases m
 .exact⟨akc,amj,rfl⟩
 .exact⟨akc,am0,rfl⟩
 .exact⟨akc,amk,rfl⟩
 .exact⟨akc,amz,rfl⟩
 .exact⟨PySem.F.plainAttrs_tuple,amm,rfl⟩
theorem Zs(m:Bm):AW m=((kM m).2.1:Str):=by cases m<;>decide +kernel
theorem PE{H:List MO}{d v:O}{xs:List O}{P:Prop}(h:zb d xs H=Y v)(k:∀a ds j,toPy H cM d=Y a->eQ (toPy H cM) xs=Y ds->ace ds=W->a.canLay0=W->a.depth<=60->ds.length < 2 ^ 60->ou a ds=Y j->v = .int j->P):P :=
 bK h λa h1 h=>bK h λds e h=>gK h λz h=>aY z λz p=>aY z λm b=>bK h λj i h =>
  k a ds j h1 e (CN (s6 _) _ m).1 (s6 _ _ b).1 (RE b) (aeI (BL p) (by decide)) i (LC h).symm
theorem Zf{m:Bm}{x:O}{as:List O}{p:O×List MO}(h:mV m x as σ.H=Y p)(k:∀τ:Sg,τ.H=p.2->Q p.1 τ):eZ c f (.builtin (kM m).2.2) (x::as) l σ Q X:=by
 have a:∀{v:O}{H:List MO},Y (v,H)=Y p->∀τ:Sg,τ.H=H->Q v τ:=λh τ e=>by have Z:=LC h;clear h;subst Z;exact k τ e
 cases m
 .exact bK h λq hq h=>gK h λz h=>qP hq λe b=>bK h λy i h=>by rw[e,iI i];exact JL b (lF z) (a h)
 .exact bK h λq hq h=>gK h λz h=>qP hq λe b=>gK h λg h=>bK h λv w h=>by rw[e,aox.mp g];exact Vc b (lF z) w (a h)
 .exact bK h λq hq h=>gK h λz h=>qP hq λe b=>bK h λy i h=>bK h λys M h=>gK h λg h=>by
   rw[e,iI i];rcases zx M with e2|⟨k2,e2,L⟩
   .rw[e2];exact U1 b (ES g) (a h)
   .rw[e2];exact U2 b L (ES g) (a h)
 .exact bK h λq hq h=>gK h λz h=>qP hq λe b=>bK h λy i h=>bK h λv w h=>PE w λT ds j A B C D E N G I=>by
   rw[e,iI i];exact Va (cM+1) cM (IV (u4.mpr b) B) A C D E N G (by rw[←I];exact a h σ rfl)
 .exact bK h λxs S h=>bK h λy i h=>bK h λv w h=>PE w λT ds j A B C D E N G I=>by
   rw[n7 S,iI i];exact Ve _ _ B A C D E G (by rw[←I];exact a h σ rfl)
theorem ahq{x:O}{t:String}(h:qO x σ.H=Y t):vw σ x t:=aK h
 (λh=>bK h λp a h=>qP a λe b=>by rw[e];exact sK h (Or.inl ⟨_,b,rfl⟩))
 λh=>aK h (λh=>bK h λp a h=>by rw[n7 a];exact sK (P:=λt=>vw σ (.tup p) t) h rfl) λh=>bK h λp a h=>by rw[kJ a];exact sK (P:=λt=>vw σ (.str p) t) h rfl
theorem abo:∀{l:List Bm},l8 n t l=Y m->n=((kM m).2.1:Str)/\(kM m).1=t:=by
 intro l;induction l with
 |nil =>
  exact@λh=>by exact bR h
 |cons b r a =>
  exact@λh=>by
   have h:cond (eu n (AW b)&&(kM b).1 == t) (Y b) (l8 n t r)=Y m:=h;cases q:(eu n (AW b)&&(kM b).1 == t) with
   |true=>rw[q]at h;exact sK (P:=λm=>n=((kM m).2.1:Str)/\(kM m).1=t) (show Y b=Y m from h) (aY q λe i=>⟨(vL e).trans (Zs b),eq_of_beq i⟩)
   |false=>rw[q]at h;exact a h
end
abbrev QK{a:Type}(K:a->List MO->Prop):a->Sg->Prop:=λv b=>K v b.H
abbrev XK(X:KX):QX:=λx a=>X x.C x.fs a.H
def dO(c:GC)(n:Nat)(fv:LD)(F:Fn):Prop:=∀m,n<=m->∀xs σ K X,F xs σ.H K X->j0 c m fv xs σ (QK K) (XK X)
theorem dO.up(h:dO c n fv F)(k:n<=n'):dO c n' fv F:=λm hm=>h m (LI k hm)
def dw(nm:List Str)(en:En)(l:Lc):Prop:=∀x i v,posOf x nm=Y i->en[i]?=Y (Y v)->l.lookup x=Y v
def nZ(c:GC)(x:Str)(v:O):Prop:=∃w,(x == ("__debug__" : Str))=LB/\(c.mg x=Y w∨((∀a,v ≠ .gl a)/\c.mg x=LA/\c.mb x=Y w))/\pK c w v
structure bS (c:GC) (f:Fc) (cx:Cx):Prop where
 kind:f.env.scope.kind = .function
 kd:∀x,f.env.kindOf x=look x cx.kd
 oX:∀x i,posOf x cx.nm=Y i->(x == ("__debug__" : Str))=LB/\(x == ("__classdict__" : Str))=LB
 gl:∀x v,look x cx.gl=Y v->nZ c x v
 fn:∀a F,eM a cx.fn=Y F->dO c f.n (.ref a) F/\dX c (.ref a)
 me:∀n tab C F,look n cx.me=Y tab->eM C tab=Y F->∃a,jH c.K C/\qV c.K C n a/\dO c f.n (.ref a) F/\dX c (.ref a)
 cm:∀C t n F,eM C cx.cm=Y t->look n t=Y F->∃a mc,akA c.K (.ref C) "__getattribute__" = Y (Y (.builtin "type.__getattribute__"))/\amc c.K C mc=W/\ake c.K (.ref C) mc n=Y (.val (.ref a))/\dO c f.n (.ref a) F/\dX c (.ref a)
 ex:ake c.K (.type "Exception") (.type "type") "__init__" = Y (.val (.builtin "Exception.__init__"))
 at_:∀n p,look n cx.at_=Y p->Ak c.K n p
 st:∀n p,look n cx.st=Y p->AE c.K n p
 dJ:Aq c.K cx.dJ
 eH:Ap c cx.eH
 T:lh c cx.T
 it:As cx.it
 hd:∀D p,eM D cx.hd=Y p->(∀C∈p.1,pH c C D W)/\∀C∈p.2,pH c C D LB
 quiet:cx.quiet=W->c.quiet=W
def cj(c:GC)(f:Fc)(nm:List Str)(e:LF)(m:EM O):Prop:=∀en l σ K X,dw nm en l->m en σ.H K X->bF c f e l σ (QK K) (XK X)
def il(c:GC)(f:Fc)(nm:List Str)(e:LF)(m:EM Bool):Prop:=∀en l σ K X,dw nm en l->m en σ.H K X->iR c f e l σ (QK K) (XK X)
def DC(c:GC)(f:Fc)(nm:List Str)(es:List LF)(a:List (EM O)):Prop:=∀en l σ K X,dw nm en l->Args a en σ.H K X->jy c f es l σ (QK K) (XK X)
structure c8 (r:Rc):Prop where
 e:∀{c f cx},bS c f cx->∀{e m},r.E cx e=Y m->cj c f cx.nm e m
 t:∀{c f cx},bS c f cx->∀{e m},r.T cx e=Y m->il c f cx.nm e m
theorem w7:∀{nm:List Str}{i:Nat},posOf x nm=Y i->nm[i]?=Y x:=by
 intro nm;induction nm with
 |nil =>
  exact@λi h=>by exact bR h
 |cons y r b =>
  exact@λi h=>by
   have h:cond (eu x y) (Y 0) ((posOf x r).bind λn=>Y (n+1))=Y i:=h;cases q:eu x y with
   |true=>rw[q]at h;rw[vL q];exact sK (P:=λi=>(y::r)[i]?=Y y) (show Y 0=Y i from h) rfl
   |false=>rw[q]at h;exact bK (show(posOf x r).bind _=Y i from h) λn a h=>sK (P:=λi=>(y::r)[i]?=Y x) h (by simpa using b a)
section
variable{c:GC}{f:Fc}{cx:Cx}{l:Lc}{σ:Sg}{Q:QV}{X:QX}{r:Rc}{nm:List Str}{en:En}
theorem xQ.mono{t:Sem Bool}{Q i:QB}(H:xQ c f t l σ Q X)(k:∀x a,Q x a->i x a)(m:∀x a,X x a->X' x a):xQ c f t l σ i X':=λs j => j8 (H s j) (λb s' a h S q=>⟨a,h,S,k _ _ q⟩) λe s' ⟨x,l',a,T,h,S,el,q⟩=>⟨x,l',a,T,h,S,el,m _ _ q⟩
theorem jy.mono:∀{es:List LF}{σ:Sg}{Q b:List O->Sg->Prop}{X X':QX},jy c f es l σ Q X->(∀x a,Q x a->b x a)->(∀x a,X x a->X' x a)->jy c f es l σ b X':=by
 intro es;induction es with
 |nil =>
  exact@λσ Q b X X' h k i=>k _ _ h
 |cons e r j =>
  exact@λσ Q b X X' h k i=>j4.mono h (λx m q=>j q (λxs m q=>k _ _ q) i) i
theorem cj.s{e:LF}{m:EM O}{K:bj}{X:KX}{G:QV}(S:cj c f nm e m)(E:dw nm en l)(h:m en σ.H K X)(k:∀v a,K v a.H->G v a):bF c f e l σ G (XK X):=(S en l σ K X E h).mono k λ_ _ q=>q
theorem il.s{e:LF}{m:EM Bool}{K:Bool->List MO->Prop}{X:KX}{G:QB}(S:il c f nm e m)(E:dw nm en l)(h:m en σ.H K X)(k:∀v a,K v a.H->G v a):iR c f e l σ G (XK X):=(S en l σ K X E h).mono k λ_ _ q=>q
theorem DC.s{e:List LF}{m:List (EM O)}{K:List O->List MO->Prop}{X:KX}{G:List O->Sg->Prop}(S:DC c f nm e m)(E:dw nm en l)(h:Args m en σ.H K X)(k:∀v a,K v a.H->G v a):jy c f e l σ G (XK X):=(S en l σ K X E h).mono k λ_ _ q=>q
theorem tU(i:sQ f x)(G:nZ c x v)(h:Q v σ):bF c f (.Name x pos) l σ Q X:=by
 refine jU G λw e hm j=>?_;rcases hm with hm|⟨_,h1,m⟩
 .exact Yl i hm j h e
 .intro s a;refine ali a.kind i (loadGlobal_builtin (mg:=c.mg) (mb:=c.mb) ?_ h1 ?_ m ⟨v,σ,j.here a.g,a,.refl,h⟩) e
  .rw[a.glob];exact c.top.g.keeps a.g.stays
  .rw[a.lW];exact c.top.b.keeps a.g.stays
theorem Yp(h:qY c f (alC (alj pos (akr elts f.env))) l σ (λxs a=>xs.length<=WE/\Q (.lst xs) a) X):bF c f (.List elts pos) l σ Q X:=λs m =>
 wpAny_List (wC (h s m) (λvs j xs i r e b w=>bg w λz q=>⟨by rw[r.length];exact z,(Il e r q).after b⟩) λ_ _ p=>p)
theorem DH{Q:List O->Sg->Prop}(a:noStar es=W)(h:jy c f es l σ Q X):qY c f (alC (alj pos (akr es f.env))) l σ Q X:=by
 rw[AP pos f.env a];exact DG (Q:=Q) h
theorem zi(h:sS o=W):o=Y .local:=bT (by cases o with|none=>exact trivial|some k=>cases k<;>first|exact trivial|exact rfl) h
theorem HO(h:uY o=W):o=Y .cell:=bT (by cases o with|none=>exact trivial|some k=>cases k<;>first|exact trivial|exact rfl) h
theorem adg(h:Qo o=W):o=Y .globalImplicit:=bT (by cases o with|none=>exact trivial|some k=>cases k<;>first|exact trivial|exact rfl) h
theorem adf(h:uZ o=W):o=Y .free:=bT (by cases o with|none=>exact trivial|some k=>cases k<;>first|exact trivial|exact rfl) h
theorem yI(ok:bS c f cx){x:Str}{g:O}{P:Prop}(h:vZ cx x=Y g)(k:sQ f x->nZ c x g->P):P:=gK h λz h=>k ((ok.kd x).trans (adg z)) (ok.gl _ _ h)
theorem aaO(ok:bS c f cx)(h:posOf x cx.nm=Y i):cj c f cx.nm (.Name x pos) (Loc i):=λen l σ K X E h'=>oK h' λv a q=>bK a λo b a =>
 Yx (E _ _ _ h (by rw[b];exact congrArg Y a)) q (ok.oX _ _ h).1 (ok.oX _ _ h).2
theorem aaJ(ok:bS c f cx){x:Str}{pos:Pos}{m:EM O}(h:Q1 cx x=Y m):cj c f cx.nm (.Name x pos) m:=aK h (λh=>gK h λ_ h=>bK h λi hi h=>sK h (aaO ok hi)) λh=>bK h λv e h=>sK h (yI ok e λa b en l σ K X E h=>tU a b h)
theorem aaE{k:Const}(h:Nr k=Y m):cj c f nm (.Constant k q pos) m:=by
 cases k<;>first|(cases h;done)|refine sK (P:=λm=>cj c f nm _ m) h ?_
 .exactλen l σ K X E h=>Yq h
 .exactλen l σ K X E h=>Ye h
 .exactλen l σ K X E h=>KA h
 .exactλen l σ K X E h=>Yu h
theorem iU{i:Type}(H:c8 r)(ok:bS c f cx){g:EM O->i}{m:i}{P:i->Prop}(h:e1 r cx a g=Y m)(k:∀b,cj c f cx.nm a b->P (g b)):P m:=bK h λb h1 h=>sK h (k b (H.e ok h1))
theorem mW{j:Type}(H:c8 r)(ok:bS c f cx){g:EM O->EM O->j}{m:j}{P:j->Prop}(h:e2 r cx a b g=Y m)(k:∀i mb,cj c f cx.nm a i->cj c f cx.nm b mb->P (g i mb)):P m:=bK h λi h1 h=>bK h λmb p h=>sK h (k i mb (H.e ok h1) (H.e ok p))
theorem aay(H:c8 r)(ok:bS c f cx)(h:Nl r cx a op b=Y m):cj c f cx.nm (.BinOp a op b p) m :=
 gK h λz h=>bK h λF e h=>mW (P:=λm=>cj c f cx.nm _ m) H ok h λw mb i hb en l σ K X E h =>
  Yd (i.s E h λx B h=>hb.s E h λy A h=>oK h λv j q=>Zg e (λn=>ok.quiet (by rw[n]at z;exact z)) j q)
theorem aaN(H:c8 r)(ok:bS c f cx){a:LF}{w:alW}{p:Pos}{m:EM O}(h:NA r cx w a=Y m):cj c f cx.nm (.UnaryOp w a p) m:=by
 cases w<;>first|(cases h;done)|skip
 .exact iU (P:=λm=>cj c f cx.nm _ m) H ok h λz e en l σ K X E h=>KC (e.s E h λx y h=>oK h λb hb q=>WM (AF hb q))
 .exact iU (P:=λm=>cj c f cx.nm _ m) H ok h λz e en l σ K X E h=>KC (e.s E h λx y h=>oK h λv j q=>bK j λi hi j=>by
   rw[lV hi];exact WK (sK (P:=λv=>K v y.H) j.symm q))
theorem aaz(H:c8 r)(ok:bS c f cx){es:List LF}{w:ams}{p:Pos}{m:EM O}(h:Nm r cx w es p=Y m):cj c f cx.nm (.BoolOp w es p) m:=by
 induction es using cL with
 |nil=>exact bR h
 |cons a l=>induction l using cL with
  |nil=>exactλen l σ K X E h'=>Yr (H.e ok h en l σ K X E h')
  |cons b l=>cases w with
   |And=>exact mW (P:=λm=>cj c f cx.nm _ m) H ok h λy mb i hb en l σ K X E h=>Yb (i.s E h λx z h=>oK h λt j q=>AF j (by
     induction t using cB with
     |true=>exact hb _ _ _ _ _ E (q5 q)
     |false=>exact q4 q))
   |Or=>exact mW (P:=λm=>cj c f cx.nm _ m) H ok h λy mb i hb en l σ K X E h=>Ys (i.s E h λx z h=>oK h λt j q=>AF j (by
     induction t using cB with
     |true=>exact q5 q
     |false=>exact hb _ _ _ _ _ E (q4 q)))
theorem Uy{q}(h:JD b=Y q):b = .Call q.1 q.2.1 q.2.2.1 q.2.2.2:=eT (K:=λq=>b = .Call q.1 q.2.1 q.2.2.1 q.2.2.2) (by cases b<;>first|exact trivial|exact rfl) h
theorem Ux{t}(h:Dm b=Y t):b = .Attribute t.1 t.2.1 t.2.2:=eT (K:=λt=>b = .Attribute t.1 t.2.1 t.2.2) (by cases b<;>first|exact trivial|exact rfl) h
theorem acX(ok:bS c f cx){P:amB->LF->Prop}(h:P8 cx op b=Y o)(k:∀a e,c.quiet=W->qy o=W->(a.endLine == e.line)=W->P .In (.Call (.Attribute o "values" a) [] [] e)):P op b :=
 bK h λq hq h=>bK h λt p h=>gK h λz h=>aY z λz D=>aY z λz C=>aY z λz B=>aY z λz A=>aY z λz y=>aY z λw x=>by
  have e1:=Uy hq;have e2:=Ux p;have j:op = .In:=bT (by cases op<;>first|exact trivial|exact rfl) w;have m:t.2.1=("values" : Str):=(vL D).trans (by decide +kernel);have i:t.1=o:=LC h;rw[e1,e2,j,lK x,lK y,m,i];exact k t.2.2 q.2.2.2 (ok.quiet A) (by rw[←i];exact B) C
theorem MX{i:Type}(H:c8 r)(ok:bS c f cx){g:(O->O->List MO->Option Bool)->EM O->EM O->i}{m:i}{P:i->Prop}(h:Ep r cx a op b g=Y m)(k:∀F e mb,alQ op b=LB->ij c F (VK op)->cj c f cx.nm a e->cj c f cx.nm b mb->P (g F e mb)):P m:=gK h λz h=>bK h λF j h=>mW H ok h λe mb p hb=>k F e mb (sY z) (Z8 ok.T j) p hb
theorem aaC(H:c8 r)(ok:bS c f cx){a:LF}{i:List amB}{rs:List LF}{p:Pos}{m:EM O}(h:Nq r cx a i rs=Y m):cj c f cx.nm (.Compare a i rs p) m :=
 bK h λz L h=>bK h λb hb h=>by
  rw[iI L,iI hb];exact aK h (λh=>bK h λo e h=>acX (P:=λz b=>cj c f cx.nm (.Compare a [z] [b] p) m) ok e λZ cp hq h1 C=>mW (P:=λm=>cj c f cx.nm _ m) H ok h λN mb j hb en l σ K X E h =>
    Yn hq h1 C (j.s E h λx S h=>hb.s E h λy A h=>oK h λv e q=>bK e λs M e=>bK e λd G e=>bK e λw I e=>gK e λB e =>
     ⟨s,d,w,kJ M,tV G,ok.T _ _ I,B,sK (P:=λv=>K (.bool v) A.H) e.symm q⟩))
   λh=>MX (P:=λm=>cj c f cx.nm _ m) H ok h λF N mb hm D j hb en l σ K X E h=>Yh (j.s E h λx S h=>hb.s E h λy A h=>oK h λv e q=>D e q) hm
theorem aaG(H:c8 r)(ok:bS c f cx){t a b:LF}{p:Pos}{m:EM O}(h:Nu r cx t a b=Y m):cj c f cx.nm (.IfExp t a b p) m :=
 bK h λmt h1 h=>mW (P:=λm=>cj c f cx.nm _ m) H ok h λi mb e hb en l σ K X E h=>Ym ((H.t ok h1).s E h λt j h=>by
  induction t using cB with
  |true=>exact e _ _ _ _ _ E (q5 h)
  |false=>exact hb _ _ _ _ _ E (q4 h))
theorem qZ(H:c8 r)(ok:bS c f cx):∀{es:List LF}{ms:List (EM O)},j9 (r.E cx) es=Y ms->DC c f cx.nm es ms:=by
 intro es;induction es with
 |nil =>
  exact@λms h=>sK h λen l σ K X E h=>h
 |cons x xs b =>
  exact@λms h=>bK h λm h1 h=>bK h λms a h=>sK h λen l σ K X E h=>(H.e ok h1).s E h λx j h=>(b a).s E h λxs i h=>h
theorem aaM(H:c8 r)(ok:bS c f cx){es:List LF}{k:Nat}{p:Pos}{m:EM O}(h:Nz r cx es=Y m):cj c f cx.nm (.Tuple es k p) m :=gK h λa h=>bK h λb h1 h=>sK h λen l σ K X E h=>Yw (DH a ((qZ H ok h1).s E h λxs e h=>bE h λz q=>⟨lF z,q⟩))
theorem aaH(H:c8 r)(ok:bS c f cx){es:List LF}{p:Pos}{m:EM O}(h:Nv r cx es p=Y m):cj c f cx.nm (.List es p) m :=
 gK h λb h=>bK h λi h1 h=>sK h (by
  cases cx.qM.contains (p.line,p.col) with
  |true=>exactλen l σ K X E h=>Yo (DH b ((qZ H ok h1).s E h λxs e h=>bE h λz q=>⟨lF z,λj a=>by rw[←a]at q;exact q⟩))
  |false=>exactλen l σ K X E h=>Yp (DH b ((qZ H ok h1).s E h λxs e h=>bE h λz q=>⟨lF z,q⟩)))
theorem UD{P:LF->Prop}(h:JE e=Y i)(k:∀a b,P (.Constant (.int i) a b)):P e:=by
 refine ve (eT (K:=λi=>∃a b,e = .Constant (.int i) a b) (by cases e<;>first|exact trivial|(rename_i q a b;cases q<;>first|exact trivial|exact⟨_,_,rfl⟩)) h) λa b h=>?_;rw[h];exact k a b
theorem ahZ{P:LF->Prop}(h:UG e=Y i)(k:∀a b,P (.Constant (.str i) a b)):P e:=by
 refine ve (eT (K:=λi=>∃a b,e = .Constant (.str i) a b) (by cases e<;>first|exact trivial|(rename_i q a b;cases q<;>first|exact trivial|exact⟨_,_,rfl⟩)) h) λa b h=>?_;rw[h];exact k a b
theorem aaF{ks:List (Option LF)}(h:Nt ks vs=Y m):cj c f nm (.Dict ks vs p) m:=aK h
 (λh=>gK h λz h=>aY z λC D=>by
  rw[lK C,lK D];exact sK (P:=λm=>cj c f nm _ m) h λen l σ K X E h=>Yj λw e=>by show K (.ref σ.H.length) w.H;rw[e];exact h)
 λh=>bK h λk y h=>bK h λI j h=>bK h λx B h=>bK h λv A h=>bK h λi hi h=>by
  rw[iI y,iI A,j];exact ahZ (P:=λk=>cj c f nm (.Dict [Y k] [v] p) m) B λa b=>UD (P:=λv=>cj c f nm (.Dict [_] [v] p) m) hi λa' G=>sK (P:=λm=>cj c f nm _ m) h λen l σ K X E h =>
   Yk (x:=x) (i:=i) rfl rfl rfl (by simp) (by simp) λw e=>by show K (.ref σ.H.length) w.H;rw[e];exact h
theorem Yc{o:LF}{nm:Str}{pos:Pos}(hb:qy o=W)(h:bF c f o l σ (λx a=>∀b,qW c f (λv=>alE v nm b) x l a Q X) X):bF c f (.Attribute o nm pos) l σ Q X:=λs w =>
 Attribute_any_ (dc (h s w) (λv i x a rv j e m=>VL (m _ v i j rv) (λ_ _ p=>p.after e) λ_ _ p=>p.after e) λ_ _ p=>p)
  (by rw[arm_eval_Attribute,D3 hb])
theorem aaw(H:c8 r)(ok:bS c f cx)(h:Nj r cx a n=Y m):cj c f cx.nm (.Attribute a n p) m :=gK h λhb h=>bK h λq hq h=>iU (P:=λm=>cj c f cx.nm _ m) H ok h λw e en l σ K X E h=>Yc hb (e.s E h λx y h=>oK h λv j h=>bE h λi q b=>UP (ok.at_ _ _ hq) j i q)
theorem IJ(h:vh x=Y p):tP x p:=aK h (λh=>gK h λz h=>by rw[wk z];exact sK h .none) λh=>bK h λi hi h=>by rw[lV hi];exact sK h (.int i)
theorem IT(H:c8 r)(ok:bS c f cx){e:Option LF}{m:EM O}(h:Ba r cx e=Y m){K:bj}{X:KX}{G:QV}(E:dw cx.nm en l)(q:m en σ.H K X)(k:∀v a,K v a.H->G v a):vA c f e l σ G (XK X):=by
 induction e using cO with
 |none=>exact YH (k _ _ (sK (P:=λm:EM O=>m en σ.H K X) (LC h▸rfl:Y m=Y (aW .none)) q))
 |some e=>exact YI ((H.e ok h).s E q k)
theorem aaK(H:c8 r)(ok:bS c f cx){v:LF}{lo:Option LF×Option LF×Option LF}{p q:Pos}{m:EM O}(h:Nx r cx v lo=Y m):cj c f cx.nm (.Subscript v (.Slice lo.1 lo.2.1 lo.2.2 q) p) m :=bK h λL h1 h=>bK h λI j h=>bK h λmb w h=>bK h λmd h4 h=>sK h λen l σ K X E h=>Yt ((H.e ok h1).s E h λx i h=>IT H ok j E h λa i h=>IT H ok w E h λb i h=>IT H ok h4 E h λd i h => oK h λz C h=>oK h λA D h=>oK h λB G h=>oK h λv y q=>⟨z,A,B,IJ C,IJ D,IJ G,XC y q⟩)
theorem aaL(H:c8 r)(ok:bS c f cx)(h:Ny r cx v i=Y m):cj c f cx.nm (.Subscript v i p) m:=aK h
 (λh=>bK h λq hq h'=>by refine LJ (eT (K:=λq=>∃p,i = .Slice q.1 q.2.1 q.2.2 p) (by cases i<;>first|exact trivial|exact⟨_,rfl⟩) hq) λp e=>?_;rw[e];exact aaK H ok h')
 λh=>mW (P:=λm=>cj c f cx.nm _ m) H ok h λj mb a hb en l σ K X E h=>Yv (a.s E h λx z h=>hb.s E h λy w h=>oK h λv b q=>UT ok.T _ _ b q)
theorem Dk(e:noStar args=W)(b:sQ f x)(G:nZ c x g)(a:g.fv=Y fv)(i:dX c fv)(h:jy c f args l σ (λvs j=>eZ c f fv vs l j Q X) X):bF c f (.Call (.Name x np) args [] pos) l σ Q X :=Yg e (tU b G ⟨fv,a,i,h⟩)
theorem Ei{fv:LD}{F:Fn}(b:dO c f.n fv F){xs:List O}{a:Sg}{K:bj}{X:KX}(h:F xs a.H K X):eZ c f fv xs l a (QK K) (XK X):=Xe (b f.n (LL _) xs a K X h)
theorem big:∀k,k < 100->(Int.ofNat k).natAbs.log2 < 1920:=by decide +kernel
theorem aax(H:c8 r)(ok:bS c f cx)(D:noStar args=W)(L:sQ f x)(G:nZ c x g)(h:Nk r cx g args=Y m):cj c f cx.nm (.Call (.Name x np) args [] p) m:=aK h
 (λh=>bK h λa A h=>bK h λF hF h=>bK h λms h1 h=>sK (P:=λm=>cj c f cx.nm _ m) h λen l σ K X E h=>by
  have k:=ok.fn _ _ hF;exact Dk D L G (by rw[tV A];rfl) k.2 ((qZ H ok h1).s E h λxs B h=>Ei k.1 h))
 λh=>aK h (λh=>bK h λs j h=>aK h
   (λh=>gK h λz h=>bK h λa A h=>iU (P:=λm=>cj c f cx.nm _ m) H ok h λI b en l σ K X E h=>by
    rw[iI A];exact Dk (iI A▸D) L G (by rw[KG j,eq_of_beq z];rfl) (dX.bi _) (b.s E h λy B h=>oK h λv S q=>V0 S q))
   λh=>gK h λz h=>bK h λa A h=>mW (P:=λm=>cj c f cx.nm _ m) H ok h λI mb b C en l σ K X E h=>by
    rw[Ub A];exact Dk (Ub A▸D) L G (by rw[KG j,eq_of_beq z];rfl) (dX.bi _) (b.s E h λy B h=>C.s E h λw ρ h=>oK h λv S q=>Vm ok.dJ S q))
 λh=>bK h λs j h=>bK h λa A h=>by
  rw[iI A];have D:noStar [a]=W:=iI A▸D;have go:∀{t:String}{l σ} {K:bj}{X:KX},(s == t)=W->jy c f [a] l σ (λvs B=>eZ c f (.type t) vs l B (QK K) (XK X)) (XK X)->bF c f (.Call (.Name x np) [a] [] p) l σ (QK K) (XK X):=λ{t l σ K X} z h =>
   Dk D L G (by rw[AI j,eq_of_beq z];rfl) (dX.ty _) h
  exact aK h (λh=>gK h λz h=>iU (P:=λm=>cj c f cx.nm _ m) H ok h λI b en l σ K X E h=>go z (b.s E h λy B h=>oK h λxs T h=>bE h λN q=>Vf T (lF N) q))
   λh=>aK h (λh=>gK h λz h=>iU (P:=λm=>cj c f cx.nm _ m) H ok h λI b en l σ K X E h=>go z (b.s E h λy B h=>oK h λxs T h=>bE h λN q=>Vb T (lF N) λρ M=>by show K (.ref B.H.length) ρ.H;rw[M];exact q))
   λh=>aK h (λh=>gK h λz h=>iU (P:=λm=>cj c f cx.nm _ m) H ok h λI b en l σ K X E h=>go z (b.s E h λy B h=>oK h λs j q=>bK j λi hi j=>gK j λw j=>aY w λZ w2=>by
    have Z:=aai Z;have w2:=aai w2;rw[lV hi];have w3:i.natAbs.log2 < 1920:=by refine LJ (amy Z) λn e=>?_;rw[e];exact big n (by omega)
    exact Vd w3 (sK (P:=λs=>K (.str s) B.H) j.symm q)))
   λh=>gK h λz h=>iU (P:=λm=>cj c f cx.nm _ m) H ok h λI b en l σ K X E h=>go z (b.s E h λy B h=>oK h λi hi q=>bK hi λs j hi=>by
    have k:=ok.it _ _ hi;rw[kJ j];exact U3 k.1 k.2 q)
theorem adP(ok:bS c f cx){n:Str}{x:O}{F:Fn}{P:Prop}(h:lJ n ((look n cx.me).getD []) x σ.H=Y F)(k:∀C fs a,(x = .obj C fs∨∃j,x = .ref j/\σ.H[j]?=Y (.inst C fs))->fs.lookup n=LA->jH c.K C->qV c.K C n a->dO c f.n (.ref a) F->dX c (.ref a)->P):P :=
 bK h λp D h=>bK h λG b h=>gK h λz h=>by
  have E:x = .obj p.1 p.2∨∃j,x = .ref j/\σ.H[j]?=Y (.inst p.1 p.2):=aK D (λh=>.inl (DJ h)) λh=>bK h λq hq h=>Dn hq λe i=>.inr ⟨_,e,by have h:=LC h;rw[h]at i;exact i⟩;have B:p.2.lookup n=LA:=by rw[←oS];exact Ck z
  cases q:look n cx.me with
  |none=>rw[q]at b;exact bR b
  |some tab =>
   rw[q]at b;refine qB (ok.me _ _ _ _ q b) λa m w y A=>?_;exact k p.1 p.2 a E B m w (LC h▸y) A
def MK(c:GC)(f:Fc)(a:List LF)(l:Lc)(e:Sg)(Q:QV)(X:QX):LD->List O->Prop:=λfv fs=>dX c fv/\jy c f a l e (λxs b=>eZ c f fv (fs++xs) l b Q X) X
theorem adS(H:c8 r)(ok:bS c f cx){n:Str}{i:List LF}{z:List (EM O)}{x:O}{K:bj}{X:KX}(E:dw cx.nm en l)(G:j9 (r.E cx) i=Y z)(h:eP (lJ n ((look n cx.me).getD []) x σ.H) (λF=>Args z en σ.H (λxs H=>F (x::xs) H K X) X) (oP ((qO x σ.H).bind λt=>l8 n t pO) λm=>Args z en σ.H (λxs H=>oP (mV m x xs H) λp=>K p.1 p.2) X)): tN c f n x l σ (MK c f i l σ (QK K) (XK X)):=by
 apply eK h
 .intro F M h;apply adP ok M;intro C fs a Z A B D I L;have q:∀y,y=x->MK c f i l σ (QK K) (XK X) (.ref a) [y]:=λy e=>⟨L,(qZ H ok G).s E h λxs ρ h=>Ei I (by rw[e];exact h)⟩;rcases Z with e|⟨j,e,N⟩
  .rw[e];exact@V3 c f l σ _ _ _ _ (MK c f i l σ (QK K) (XK X)) B D A (q _ e.symm)
  .rw[e];exact@V4 c f l σ _ _ _ _ _ (MK c f i l σ (QK K) (XK X)) N B D A (q _ e.symm)
 .intro _ h;apply oK h;intro b hb h;apply bK hb;intro t T hb;have k:=abo hb;have s:=Zt b;rw[k.1];exact@V1 c f l σ _ _ _ _ _ (ahq T) (k.2▸s.1) (k.2▸s.2.1) s.2.2 ⟨dX.bi _,(qZ H ok G).s E h λxs ρ h=>oK h λp S q=>Zf S λπ w=>by show K p.1 π.H;rw[w];exact q⟩
theorem aaI(H:c8 r)(ok:bS c f cx){a:LF}{n:Str}{j p:Pos}{b:List LF}{m:EM O}(z:noStar b=W)(hb:qy a=W)(y:(j.endLine == p.line)=W)(i:b.length < 30)(h:Nw r cx a n b=Y m): cj c f cx.nm (.Call (.Attribute a n j) b [] p) m:=bK h λC h1 h=>bK h λA w h=>sK (P:=λm=>cj c f cx.nm _ m) h λen l σ K X E h=>DI z hb y i ((H.e ok h1).s E h λx B h=>@adS c f cx l B r en H ok n b A x K X E w h)
theorem aa8(ok:bS c f cx)(h:excIn cx.eH xs σ.H=Y H')(q:∀b:Sg,b.H=H'->Q .none b):eZ c f (.builtin "Exception.__init__") xs l σ Q X:=by
 induction xs using cL with
 |nil=>exact bR h
 |cons x r =>
  refine bK h λp m h=>gK h λz h=>aY z λw y=>DQ m λe j=>?_;refine LJ (ok.eH _ (kY w)) λB i=>?_;rw[e];exact U0 i j (eg y) λA a=>q A (a.trans (LC h))
theorem aaB(H:c8 r)(ok:bS c f cx)(x:noStar args=W)(w:(ap.endLine == p.line)=W)(b:args.length < 30)(j:sQ f y)(G:nZ c y g)(h:Np r cx g n args=Y m): cj c f cx.nm (.Call (.Attribute (.Name y np) n ap) args [] p) m:=aK h
 (λh=>bK h λC M h=>bK h λt Z h=>bK h λF N h=>bK h λms h1 h=>sK (P:=λm=>cj c f cx.nm _ m) h λen l σ K X E h=>by
  refine nM (ok.cm _ _ _ _ Z N) λa mc A B D I L=>?_;exact DI x rfl w b (tU j G (by rw[tV M];exact V2 A B D ⟨L,(qZ H ok h1).s E h λxs ρ h=>Ei I h⟩)))
 λh=>bK h λs T h=>gK h λz h=>aY z λz1 z2=>bK h λms h1 h=>sK (P:=λm=>cj c f cx.nm _ m) h λen l σ K X E h=>by
  have e:n=("__init__" : Str):=(vL z2).trans (by decide +kernel);rw[e];exact DI x rfl w b (tU j G (by
   rw[AI T,eq_of_beq z1];exact V5 (by rw[amZ];rfl) (by decide +kernel) ok.ex rfl ⟨dX.bi _,(qZ H ok h1).s E h λxs τ h=>oK h λH' S q=>aa8 ok S λπ i=>by show K .none π.H;rw[i];exact q⟩))
theorem tw{P:LF->Prop}(h:tv e=Y x)(k:∀p,P (.Name x p)):P e:=by
 refine LJ (eT (K:=λx=>∃p,e = .Name x p) (by cases e<;>first|exact trivial|exact⟨_,rfl⟩) h) λp h=>?_;rw[h];exact k p
theorem ahV{t:LF×Str×Pos}{P:LF->Prop}(h:Dm e=Y t)(k:P (.Attribute t.1 t.2.1 t.2.2)):P e:=by rw[Ux h];exact k
theorem aaA(H:c8 r)(ok:bS c f cx)(h:Nn r cx a args kws p=Y m):cj c f cx.nm (.Call a args kws p) m :=
 gK h λz h=>aY z λA w=>by
  rw[lK A];exact aK h (λh=>bK h λx D h=>bK h λg j h=>tw (P:=λa=>cj c f cx.nm (.Call a args [] p) m) D λG=>yI ok j λe i=>aax H ok w e i h)
   λh=>bK h λt C h=>ahV (P:=λa=>cj c f cx.nm (.Call a args [] p) m) C (gK h λz h=>aY z λz b=>aY z λA B=>aK h
    (λh=>bK h λy E h=>bK h λg j h=>tw (P:=λo=>cj c f cx.nm (.Call (.Attribute o t.2.1 t.2.2) args [] p) m) E λG=>yI ok j λe i=>aaB H ok w B (tY b) e i h)
    λh=>aaI H ok w A B (tY b) h)
theorem TC(H:c8 r)(ok:bS c f cx){g:EM Bool->EM Bool->EM Bool}{P:EM Bool->Prop}(h:t2 r cx a b g=Y m)(k:∀e mb,il c f cx.nm a e->il c f cx.nm b mb->P (g e mb)):P m:=bK h λe h1 h=>bK h λmb i h=>sK h (k e mb (H.t ok h1) (H.t ok i))
theorem ag9(H:c8 r)(ok:bS c f cx){e:alW}(h:TJ r cx e a=Y m):il c f cx.nm (.UnaryOp e a p) m:=by
 cases e<;>first|(cases h;done)|exact bK h λi h1 h=>sK (P:=λm=>il c f cx.nm _ m) h λen l σ K X E h=>YB ((H.t ok h1).s E h λb j h=>h)
theorem ag7(H:c8 r)(ok:bS c f cx){e:ams}(h:TG r cx e es p=Y m):il c f cx.nm (.BoolOp e es p) m:=by
 induction es using cL with
 |nil=>cases e with
  |And=>exact sK (P:=λm=>il c f cx.nm _ m) h λen l σ K X E h=>Yz h
  |Or=>exact sK (P:=λm=>il c f cx.nm _ m) h λen l σ K X E h=>YD h
 |cons a l=>cases e with
  |And=>exact TC (P:=λm=>il c f cx.nm _ m) H ok h λj mb i hb en l σ K X E h=>Yy (i.s E h λb w h=>by
    induction b using cB with
    |true=>exact hb _ _ _ _ _ E (q5 h)
    |false=>exact q4 h)
  |Or=>exact TC (P:=λm=>il c f cx.nm _ m) H ok h λj mb i hb en l σ K X E h=>YC (i.s E h λb w h=>by
    induction b using cB with
    |true=>exact q5 h
    |false=>exact hb _ _ _ _ _ E (q4 h))
theorem ag8(H:c8 r)(ok:bS c f cx){a:LF}{e:List amB}{rs:List LF}{p:Pos}{m:EM Bool}(h:TH r cx a e rs=Y m):il c f cx.nm (.Compare a e rs p) m :=
 bK h λB w h=>bK h λb hb h=>by
  rw[iI w,iI hb];exact MX (P:=λm=>il c f cx.nm _ m) H ok h λF A mb hm i j hb en l σ K X E h=>YA (j.s E h λx D h=>hb.s E h λy C h=>oK h λv z q=>i z (Kg q)) hm
theorem Dh(H:c8 r)(ok:bS c f cx)(h:e1 r cx a cJ=Y m)(he:∀b,isTrue a f.env b=(do let v ←b;standAt a.pos;holding [v] (truthy v))):il c f cx.nm a m :=iU (P:=λm=>il c f cx.nm a m) H ok h λj e en l σ K X E h=>YE (e.s E h λx p h=>oK h λv i q=>AF i q) he
theorem ab5(H:c8 r)(ok:bS c f cx)(h:Oq r cx a=Y m):il c f cx.nm a m:=eT (K:=λm=>il c f cx.nm a m) (by
 cases a<;>first|exact trivial|refine eW λm h=>?_
 .exact ag7 H ok h
 .exact ag9 H ok h
 .exact ag8 H ok h
 .exact Dh H ok h λ_=>rfl
 .exact Dh H ok h λ_=>rfl
 .exact Dh H ok h λ_=>rfl
 .exact Dh H ok h λ_=>rfl) h
end
theorem abP(f:List (Str×aaW)):∀n,n∈frees f->∃p∈f,p.1=n/\p.2 = .free:=by
 intro n;induction f with
 |nil=>intro h;exact fj h
 |cons p r i =>
  obtain⟨a,k⟩:=p;intro h;have h:n∈(if (k == .free)=W then a::frees r else frees r):=h;by_cases q:(k == aju)=W
  .rw[VD q]at h;rcases VM.mp h with e|h
   .exact⟨_,.head _,e.symm,eq_of_beq q⟩
   .refine aM (i h) λp b e=>?_;exact⟨p,.tail _ b,e⟩
  .rw[QE q]at h;refine aM (i h) λp b e=>?_;exact⟨p,.tail _ b,e⟩
theorem Ii:∀{l:List Str},wG l=W->l.Nodup:=by
 intro l;induction l with
 |nil =>
  exact@λ_=>.nil
 |cons x r e =>
  exact@λh=>aY (b:=wG r) h λh1 a=>VI.mpr ⟨λm=>ald ((sY (AJ h1 x m)).symm.trans ((q8 x x).mpr rfl)),e a⟩
theorem IA(h:u7 x=W):(x == ("__debug__" : Str))=LB/\(x == ("__classdict__" : Str))=LB:=aY h λh1 a=>by
 have h1:=sY h1;have a:=sY a;rw[vJ]at h1 a;have e1:(⟨⟨[95,95,100,101,98,117,103,95,95]⟩⟩: Str)= "__debug__":=by decide +kernel
 have e2:(⟨⟨[95,95,99,108,97,115,115,100,105,99,116,95,95]⟩⟩: Str)= "__classdict__":=by decide +kernel
 rw[←e1,←e2];exact⟨h1,a⟩
section
variable{c:GC}{f:Fc}{cx:Cx}{l:Lc}{σ:Sg}{Q:QV}{X:QX}{r:Rc}{nm:List Str}
structure mP (cx:Cx) (sc:ajB) (x:Str):Prop where
 kind:sc.kind = .function
 names:∀p∈sc.names,SX cx sc p=W
 nd:(x::frees sc.names).Nodup
 nmx:(x == ("__debug__" : Str))=LB/\(x == ("__classdict__" : Str))=LB
 x:look x sc.names=Y .local
theorem acT{k:anA}(h:isFun k=W):k = .function:=by cases k<;>first|rfl|exact bL h
theorem agj(h:SY cx sc x=W):mP cx sc x:=aY h λh e=>aY h λh h4=>aY h λh b=>aY h λh1 a=>⟨acT h1,λp m=>AJ a p m,Ii b,IA h4,zi e⟩
theorem mP.free{sc:ajB}{x:Str}(S:mP cx sc x){n:Str}(h:n∈frees sc.names):look n sc.names=Y .free/\look n cx.kd=Y .cell:=by
 obtain⟨⟨a,k⟩,e,e1,e2⟩:=abP _ _ h;have e1:a=n:=e1;have e2:k = .free:=e2;subst e1 e2;have h:(uZ (look a sc.names)&&uY (look a cx.kd))=W:=S.names _ e;exact aY h λh1 b=>⟨adf h1,HO b⟩
theorem mP.loc{sc:ajB}{x:Str}(S:mP cx sc x){p:Str×aaW}(h:p∈sc.names)(e:p.2 = .local):look p.1 sc.names=Y .local:=by
 obtain⟨a,k⟩:=p;have e:k = .local:=e;subst e;exact zi (S.names _ h)
theorem mP.aeg{sc:ajB}{x:Str}(S:mP cx sc x){p:Str×aaW}(h:p∈sc.names):p.2 ≠ .cell:=by
 obtain⟨a,k⟩:=p;intro e;have e:k = .cell:=e;subst e;exact ald (show LB=W from S.names _ h)
theorem posK{z n:Str}{a:List Str}{j:Nat}{P:Prop}(h:posOf z (n::a)=Y j)(b:z=n->j=0->P)(k2:∀i,z≠n->posOf z a=Y i->j=i+1->P):P:=by
 have h:cond (eu z n) (Y 0) ((posOf z a).bind λn=>Y (n+1))=Y j:=h;cases q:eu z n with
 |true=>rw[q]at h;exact b (vL q) (LC h).symm
 |false=>rw[q]at h;exact bK (show(posOf z a).bind _=Y j from h) λi hi h=>k2 i (λe=>by rw[e,(q8 n n).mpr rfl]at q;exact qK q) hi (LC h).symm
theorem BN(ok:bS c f cx){en:En}(E:dw cx.nm en l):∀{a:List Str}{is:List Nat}{q:En},j9 (yb cx) a=Y is->mZ is en=Y q -> (∀n∈a,∃v,l.lookup n=Y v)/\∀z j v,posOf z a=Y j->q[j]?=Y (Y v)->l.lookup z=Y v:=by
 intro a;induction a with
 |nil =>
  exact@λis q h _=>⟨λn m=>(nomatch m),λz j v e _=>(nomatch e)⟩
 |cons n a b =>
  exact@λis q h hq=>bK h λi hi h=>bK h λG B h=>by
   rw[←LC h]at hq;refine bK (show((en[i]?).bind id).bind _=Y q from hq) λv x hq=>bK hq λH p hq=>?_;have b:=b B p;have D:posOf n cx.nm=Y i:=gK hi λ_ h=>h;have y:l.lookup n=Y v:=bK x λo C x=>E _ _ _ D (by rw[C];exact congrArg Y x);rw[←LC hq];refine⟨λm hm=>?_,λz j w e hw=>posK e (λe1 e2=>?_) λi e1 e2 A=>?_⟩
   .rcases VM.mp hm with e|hm
    .exact⟨v,by rw[e];exact y⟩
    .exact b.1 m hm
   .rw[e2]at hw;rw[e1,y];exact LC hw
   .rw[A]at hw;exact b.2 z i w e2 hw
theorem acC{env:Env}{ns0:List (Str×aaW)}(j:env.scope.kind = .function)(kd:∀n,(n∈frees ns0->env.kindOf n=Y .cell))(x:Str):∀{a:List (Str×aaW)},(∀n,n∈frees a->n∈frees ns0)-> (a.map λ(n,k)=>if (k == aju&&env.scope.kind == .function&&env.kindOf n == Y .cell) then(n,akd) else(n,k)).lookup x=look x (Cd a):=by
 intro a;induction a with
 |nil =>
  exact@λ_=>rfl
 |cons p r b =>
  obtain⟨n,k⟩:=p;exact@λh=>by
   have b:=b λm hm=>h m (by
    show m∈(if (k == .free)=W then n::frees r else frees r);by_cases q:(k == aju)=W
    .rw[VD q];exact .tail _ hm
    .rw[QE q];exact hm)
   rw[VR];show _=cond (eu x n) (Y (cond (uZ (Y k)) .cell k)) (look x (Cd r));rw[vJ,←b];by_cases q:k = .free
   .subst q;have i:env.kindOf n=Y .cell:=kd n (h n (List.Mem.head _));have e:(aju == aju&&env.scope.kind == .function&&env.kindOf n == Y .cell)=W:=by rw[j,i];rfl
    dsimp only;rw[VD e,VC];cases x == n<;>rfl
   .have e:¬((k == aju&&env.scope.kind == .function&&env.kindOf n == Y .cell)=W):=λz=>aY z λz _=>aY z λz _=>q (eq_of_beq z);have e2:uZ (Y k)=LB:=by cases k<;>first|rfl|exact absurd rfl q
    dsimp only;rw[QE e,VC,e2];cases x == n<;>rfl
theorem adM{b i:Type}{g:b->Option i}:∀{l:List b}{r:List i},j9 g l=Y r->∀x∈l,∃y,g x=Y y:=by
 intro l;induction l with
 |nil =>
  exact@λ_ _ x m=>nomatch m
 |cons a l w =>
  exact@λr h x m=>bK h λy p h=>bK h λys j _=>by
   rcases VM.mp m with e|m
   .exact⟨y,by rw[e];exact p⟩
   .exact w j x m
theorem Hy(ok:bS c f cx){sc:ajB}{x:Str}(S:mP cx sc x){is:List Nat}(fW:j9 (yb cx) (frees sc.names)=Y is){f':Fc}(b:tR f sc f'):bS c f' (Cc cx sc x) where
 kind:=by rw[b.sc];exact S.kind
 kd:=λz=>by
  show f'.env.scope.names.lookup z=_;rw[b.sc];exact acC (ns0:=sc.names) ok.kind (λn y=>(ok.kd n).trans (S.free y).2) z λn h=>h
 oX:=λz i h=>by
  have h:posOf z (x::frees sc.names)=Y i:=h;rcases VM.mp (aj4 (w7 h)) with e|m
  .rw[e];exact S.nmx
  .refine LJ (adM fW z m) λj w=>?_;exact gK w λ_ w=>ok.oX _ _ w
 gl:=ok.gl
 fn:=λa F h=>by rw[b.n];exact ok.fn a F h
 me:=λn t C F h p=>by rw[b.n];exact ok.me n t C F h p
 cm:=λn t C F h p=>by rw[b.n];exact ok.cm n t C F h p
 ex:=ok.ex
 at_:=ok.at_
 st:=ok.st
 dJ:=ok.dJ
 eH:=ok.eH
 T:=ok.T
 it:=ok.it
 hd:=ok.hd
 quiet:=ok.quiet
def tH(K:bj):QV:=λy a=>∃k m z,y = .ref k/\a.H[k]?=Y m/\rB m=Y z/\∀b:Sg,b.H=a.H.set k .dead->K z b.H
theorem NC{K:bj}(h:lZ k σ.H K):tH K (.ref k) σ:=oK h λxs a q=>bK a λm hm g=>⟨k,_,_,rfl,uq hm g,rfl,λb e=>by rw[e];exact q⟩
theorem KH{k:Nat}{z:O}{H H':List MO}{P:Prop}(h:pN k z H=Y H')(q:∀acc,H[k]?=Y (.lst acc)->acc.length<=WE->H'=H.set k (.lst (acc++[z]))->P):P :=bK h λm hm h=>bK h λacc g h=>gK h λz h=>q acc (uq hm g) (lF z) (LC h).symm
def JT(c:GC)(f':Fc)(x:Str)(b:LF)(a:Lc)(e:En)(m:EM O):Prop:=∀y σ K X,m (some y::e) σ.H K X->bF c f' b (cy x y a) σ (QK K) (XK X)
def Dw(c:GC)(f':Fc)(x:Str)(ifs:List LF)(a:Lc)(h:En)(ts:List (EM Bool)):Prop:=∀y σ K X (G:Bool->Sg->Prop),PJ ts (some y::h) σ.H K X->(∀b e,K b e.H->G b e)->qS c f' (cy x y a) σ (XK X) G ifs
theorem Z0{f':Fc}{x:Str}{C:LF}{ifs:List LF}{w:Lc}{E:En}{m:EM O}{ts:List (EM Bool)}{k:Nat}{a:Nat->bj}{p:Nat->List MO->Prop}{K:bj}{X:KX}(I:JT c f' x C w E m)(T:Dw c f' x ifs w E ts)(r:List O): ∀(i:Nat) (acc:List O) (τ:Sg),(∀j y H,r[j]?=Y y->a (i+j) y H)->(∀H,p (i+r.length) H)->og m ts E k (λG=>lZ k G K) X r τ.H -> Cp c f' x C ifs w k a p (λacc B=>tH K (.ref k) B) (XK X) (r.length+1) i acc τ:=by
 induction r with
 |nil=>exactλi acc τ M N h=>.inr ⟨N _,NC h⟩
 |cons y r ih =>
  intro i acc τ M N h;refine .inl ⟨y,M 0 y _ rfl,?_⟩;have A:∀acc τ,og m ts E k (λG=>lZ k G K) X r τ.H->Cp c f' x C ifs w k a p (λacc B=>tH K (.ref k) B) (XK X) (r.length+1) (i+1) acc τ:=λacc τ e =>
   ih (i+1) acc τ (λj y H h=>by have:=M (j+1) y H h;rw[←akJ,akn]at this;exact this) (λH=>by have:=N H;rw[VN,←akJ,akn]at this;exact this) e
  refine T y τ _ _ _ h λb S h=>?_;induction b using cB with
  |false=>exact A acc S (q4 h)
  |true=>exact(I y S _ _ (q5 h)).mono (λz π h=>oK h λH' hH h=>KH hH λD h1 Z e=>⟨D,h1,Z,λψ L=>A _ ψ (by rw[L,←e];exact h)⟩) λ_ _ q=>q
theorem aaj{K:Bool->Sg->Prop}(h:K W σ):qS c f l σ X K []:=h
theorem acE:Dw c f' x [] aix fe []:=λy σ K X G h k=>k W σ h
theorem Z6{f':Fc}{x:Str}{p:LF}{b:Lc}{B:En}{m:EM O}{k j:Nat}{K:bj}{X:KX}(I:JT c f' x p b B m)(n:Nat): ∀(i:Nat) (acc:List O) (τ:Sg),yh m B j k (λG=>lZ k G K) X n i τ.H -> Cp c f' x p [] b k (λi x H=>∃xs,H[j]?=Y (.lst xs)/\xs[i]?=Y x) (λi H=>∃xs,H[j]?=Y (.lst xs)/\xs[i]?=LA) (λacc A=>tH K (.ref k) A) (XK X) n i acc τ:=by
 induction n with
 |zero=>exactλi acc τ h=>h.elim
 |succ n L =>
 intro i acc τ h;exact oK h λys E h=>bK E λN hm g=>eK h
  (λy hi h=>.inl ⟨y,⟨ys,uq hm g,hi⟩,aaj (by
   exact(I y τ _ _ h).mono (λz S h=>oK h λH' D h=>KH D λa h1 C e=>⟨a,h1,C,λM w=>L (i+1) _ M (by rw[w,←e];exact h)⟩) λ_ _ q=>q)⟩)
  λhi h=>.inr ⟨⟨ys,uq hm g,hi⟩,NC h⟩
variable{en:En}
theorem Jw:∀(n:Nat) (i:Int) (j:Nat) (v:O),(upTo n i)[j]?=Y v->j < n/\v = .int (i+j)
 |0,i,j,v,h=>by cases j<;>(exact bR h)
 |n+1,i,0,v,h=>⟨anC n,by rw[←LC h];simp⟩
 |n+1,i,j+1,v,h=>by
  refine bg (Jw n (i+1) j v h) λa b=>?_;refine⟨Nat.succ_lt_succ a,b.trans (congrArg O.int ?_)⟩;lia
theorem Uh:∀(n:Nat) (i:Int),(upTo n i).length=n:=by
 intro n;induction n with
 |zero=>exactλi=>rfl
 |succ n a=>exactλi=>congrArg (· + 1) (a _)
theorem fitsLong(h1:0<=i)(a:i<=60000):akB i=W:=by
 unfold akB;rw[LM,ajJ,ajJ];exact⟨apr (by decide:(-9223372036854775808:Int)<=0) h1,anB a (by decide:(60000:Int)< 9223372036854775808)⟩
theorem Sq(a:0<=n)(h:n < 60000):aeK 0 n 1=W/\QG 0 n 1=n:=by
 have e:QG 0 n 1=n:=by
  unfold QG;rw[VD (by decide)];by_cases q:(0:Int)< n
  .rw[VD q];lia
  .rw[QE q];lia
 refine⟨?_,e⟩;unfold aeK;rw[e];simp only[fitsLong (Int.le_refl 0) (by decide),fitsLong a (amt h),fitsLong (show(0:Int)<=1 by decide) (by decide)];have k:akB (n+(1 - 1))=W:=fitsLong (by rw[apt,apu];exact a) (by rw[apt,apu];exact amt h);rw[VD (by decide:(1:Int) > 0),k];simp
theorem SD{P:O->List O->Prop}(h:vk x=Y ys)(k:∀n:Int,0<=n->n < 60000->P (.int n) (upTo n.toNat 0)):P x ys :=bK h λn a h=>gK h λz h=>aY z λb e=>by rw[lV a,←LC h];exact k n (aai b) (aai e)
theorem HG{P:LF->Prop}(ok:bS c f cx)(h:HF t cx it=Y e)(k:∀x a p,noStar [e]=W->sQ f x->nZ c x (.ty t)->P (.Call (.Name x a) [e] [] p)):P it :=
 bK h λq hq h=>bK h λx w h=>bK h λg j h=>bK h λs m h=>gK h λz h=>aY z λz B=>aY z λy A=>by
  have e1:=Uy hq;rw[e1,lK A,iI h];refine tw (P:=λo=>P (.Call o [e] [] q.2.2.2)) w λa=>yI ok j λi b=>k x a q.2.2.2 (iI h▸B) i ?_;rw[AI m,eq_of_beq y]at b;exact b
theorem agR(H:c8 r)(ok:bS c f cx)(hq:c.quiet=W){w tg:LF}{s:EM (List O)}(h:ym r cx w=Y s)(E:dw cx.nm en l){K:List O->List MO->Prop}{X:KX}(q:s en σ.H K X){C:(Nat->bj)->(Nat->List MO->Prop)->Sg->Prop}(k:∀A B ys z,K ys z.H->(∀j y H,ys[j]?=Y y->A j y H)->(∀H,B ys.length H)->C A B z):kH c f tg w l σ C (XK X):=A9 h
 (λe he h=>HG (P:=λw=>kH c f tg w l σ C (XK X)) ok he λx S p N I L =>
  iU (P:=λs:EM (List O)=>s en σ.H K X->kH c f tg (.Call (.Name x S) [e] [] p) l σ C (XK X)) H ok h (λm hm q=>Vn hq N (tU I L ⟨rfl,hm.s E q λv z q=>oK q λys D q =>
   SD (P:=λv ys=>K ys z.H->∃n,v = .int n/\aeK 0 n 1=W/\C (λi x _=>(i:Int)< QG 0 n 1/\x = .int i) (λi _=>QG 0 n 1<=(i:Int)) z) D (λn M h1 q=>by
    refine bg (Sq M h1) λr1 G=>?_;refine⟨n,rfl,r1,k _ _ _ z q (λj y H D=>?_) λH=>?_⟩
    .refine bg (Jw _ _ _ _ D) λa b=>?_;rw[G];exact⟨apv.mp a,by rw[b,amn]⟩
    .rw[G,Uh];exact an4 n) q⟩)) q)
 λ_ h=>iU (P:=λs:EM (List O)=>s en σ.H K X->kH c f tg w l σ C (XK X)) H ok h (λm hm q=>JS (hm.s E q λx z q=>oK q λys D q=>aK D
  (λh=>by rw[n7 h];exact⟨_,_,JY hq,k _ _ _ z q (λj y H h=>h) λH=>VO (LL _)⟩)
  λh=>by rw[Cv h];exact⟨_,_,JW hq,k _ _ _ z q (λj y H h=>h) λH=>VO (LL _)⟩)) q
theorem Iq(h:CI e=W)(env:Env)(y:LD):aeL e env y=pure y:=by
 exact bT (by cases e<;>first|exact trivial|exact rfl) h
theorem IL(fl:∀z j v,posOf z ns=some j->fe[j]?=some (some v)->l.lookup z=some v)(y:O):dw (x::ns) (some y::fe) (cy x y (jm ns l)):=λz i v e a=>by
 rw[mA];refine posK e (λe1 e2=>?_) λj e1 e2 b=>?_
 .rw[e2]at a;rw[VD e1];exact LC a
 .rw[b]at a;rw[QE e1];exact QM (aj4 (w7 e2)) (fl z j v e2 a)
structure JO (cx:Cx) (r:Rc) (m:EM O) (elt iter:LF) (x:Str) (ifs:List LF) (sc:ajB):Prop where
 q:cx.quiet=W
 S:mP cx sc x
 set:CI iter=W
 run:∀{c:GC}{f:Fc}{px:Pos}{en:En}{l:Lc}{σ:Sg}{K:bj}{X:KX},c8 r->bS c f cx->dw cx.nm en l->m en σ.H K X->vq f sc l x /\
  kH c f (.Name x px) iter l σ (λgive stop aio=>∀f',tR f sc f'->∀τ:Sg,τ.H=aio.H++[.lst []]->∃n,Cp c f' x elt ifs (jm (frees sc.names) l) aio.H.length give stop (λacc aip=>tH K (.ref aio.H.length) aip) (XK X) n 0 [] τ) (XK X)
theorem M1(ok:bS c f cx)(S:mP cx sc x)(E:dw cx.nm en l)(fW:j9 (yb cx) (frees sc.names)=Y is)(a:mZ is en=Y fe):vq f sc l x where
 kind:=S.kind
 names:=λp h e=>u5 (S.loc h e)
 cell:=λp h=>S.aeg h
 free:=⟨(VI.mp S.nd).2,λn b=>⟨(ok.kd n).trans (S.free b).2,u5 (S.free b).1,by
  refine LJ ((BN ok E fW a).1 n b) λv i=>?_;rw[i];rfl⟩⟩
 x:=u5 S.x
theorem M5(H:c8 r)(ok:bS c f cx)(hq:c.quiet=true){w b:LF}{ifs:List LF}{sc:ajB}{x:Str}{px:Pos}(S:mP cx sc x){is:List Nat}(fW:j9 (yb cx) (frees sc.names)=some is){I:EM O}(D:r.E (Cc cx sc x) w=some I){ts:List (EM Bool)}(T:∀{A:En},mZ is en=some A->∀f',tR f sc f'->Dw c f' x ifs (jm (frees sc.names) l) A ts){s:EM (List O)}(N:ym r cx b=some s){K:bj}{X:KX}(E:dw cx.nm en l)(h:jt s is I ts en σ.H K X):vq f sc l x /\ kH c f (.Name x px) b l σ (λa i m=>∀f',tR f sc f'->∀z:Sg,z.H=m.H++[.lst []]->∃n,Cp c f' x w ifs (jm (frees sc.names) l) m.H.length a i (λacc C=>tH K (.ref m.H.length) C) (XK X) n 0 [] z) (XK X):=
 oK (cast yi h) λA p h=>⟨M1 ok S E fW p,agR H ok hq N E h λa i ys z h M G f' L Z B=>⟨ys.length+1,Z0
  (λy z K X h=>H.e (Hy ok S fW L) D (some y::A) _ z K X (IL (BN ok E fW p).2 y) h) (T p f' L) ys 0 [] Z (λj y H h=>by rw[aj8];exact M j y H h) (λH=>by rw[aj8];exact G H) (by rw[B];exact h)⟩⟩
theorem ahW{q:Str×LF×List LF}{P:List akI->Prop}(h:Uz gens=Y q)(k:∀px,P [⟨.Name q.1 px,q.2.1,q.2.2,0⟩]):P gens :=
 bK h λg b h=>bK h λx e h=>gK h λz h=>by
  obtain⟨t,it,ifs,a⟩:=g;rw[iI b];have z:a=0:=eq_of_beq z;subst z;rw[←LC h]at k;exact tw (P:=λt=>P [⟨t,it,ifs,0⟩]) e k
theorem M8(h:yl r cx elt b sc=some m):∃x px a ifs,b=[⟨.Name x px,a,ifs,0⟩]/\JO cx r m elt a x ifs sc :=
 bK h λq hq h=>gK h λz h=>aY z λz z3=>aY z λB z2=>bK h λis fW h=>bK h λL j h=>ahW (P:=λb=>∃x px a ifs,b=[⟨.Name x px,a,ifs,0⟩]/\JO cx r m elt a x ifs sc) hq λpx=>by
  have S:=agj z2;refine⟨q.1,px,q.2.1,q.2.2,rfl,B,S,z3,λ{c f px en l σ K X} H ok E h'=>aK h (λh=>gK h λzn h=>?_) λh=>bK h λt ht h=>bK h λmt D h=>bK h λs w h=>?_⟩
  .rw[lK zn];cases A:P7 cx q.2.1 with
   |true=>rw[A]at h;exact bK (show(r.E cx q.2.1).bind _=some m from h) λs w h=>oK (cast M3 (show tB s is L en σ.H K X by rw[show tB s is L=m from LC h];exact h')) λN i h =>
     ⟨M1 ok S E fW i,JS ((H.e ok w).s E h λv M h=>oK h λp Z h=>qP Z λe T=>by
      rw[e];exact⟨_,_,JX (ok.quiet B) T,λf' I ψ C=>⟨jD,Z6 (λy M K X h=>H.e (Hy ok S fW I) j (some y::N) _ M K X (IL (BN ok E fW i).2 y) h) jD 0 [] ψ (by rw[C];exact h)⟩⟩)⟩
   |false=>rw[A]at h;exact bK (show(ym r cx q.2.1).bind _=some m from h) λs w h=>M5 H ok (ok.quiet B) S fW j (λ_ f' _=>acE) w E (by rw[LC h];exact h')
  .rw[iI ht];exact M5 (ifs:=[t]) (ts:=[mt]) H ok (ok.quiet B) S fW j (λi f' I y σ K X G h k=>(H.t (Hy ok S fW I) D).s (IL (BN ok E fW i).2 y) h k) w E (by rw[LC h];exact h')
theorem aaD(H:c8 r)(ok:bS c f cx)(h:yl r cx elt gens sc=Y m):cj c f cx.nm (.ListComp elt gens sc p) m:=by
 refine zP (M8 h) λx px a ifs e C=>?_;rw[e]
 exactλen l σ K X E h=>by
  refine bg (C.run (px:=px) H ok E h) λb k2=>?_;exact j4.freeze (Yi (Q:=tH K) (ok.quiet C.q) b (Iq C.set _) k2)
theorem ab3(H:c8 r)(ok:bS c f cx)(h:Om r cx a=Y m):cj c f cx.nm a m:=eT (K:=λm=>cj c f cx.nm a m) (by
 cases a<;>first|exact trivial|refine eW λm h=>?_
 .exact aaz H ok h
 .exact aay H ok h
 .exact aaN H ok h
 .exact aaG H ok h
 .exact aaF h
 .exact aaD H ok h
 .exact aaC H ok h
 .exact aaA H ok h
 .exact aaE h
 .exact aaw H ok h
 .exact aaL H ok h
 .exact aaJ ok h
 .exact aaH H ok h
 .exact aaM H ok h) h
theorem Ss:∀n,c8 (rc n):=by
 intro n;induction n with
 |zero=>exact⟨λ_ _ _ h=>(nomatch h),λ_ _ _ h=>(nomatch h)⟩
 |succ n a=>exact⟨λok _ _ h=>ab3 (a) ok h,λok _ _ h=>ab5 (a) ok h⟩
end
def QS(nm:List Str)(K:KF):Fl->Lc->Sg->Prop:=λk l' a=>∃en,dw nm en l'/\K k en a.H
def XS(nm:List Str)(X:KE):Lc->QX:=λl' x a=>∃en,dw nm en l'/\X x.C x.fs en a.H
def dI(c:GC)(f:Fc)(nm:List Str)(s:ah7)(M:SM):Prop:=∀en l σ K X,dw nm en l->M en σ.H K X->d6 c f (ak4 s f.env) l σ (QS nm K) (XS nm X)
def AD(c:GC)(f:Fc)(nm:List Str)(s:List ah7)(M:SM):Prop:=∀en l σ K X,dw nm en l->M en σ.H K X->d6 c f (ajV s f.env) l σ (QS nm K) (XS nm X)
def gZ(f:Fc)(cx:Cx):Prop:=∀x,look x cx.kd=Y .cell->∃a,f.env.cells.lookup x=Y a
def mO(S:Rs):Prop:=∀{c f cx},bS c f cx->gZ f cx->∀{s M},S cx s=Y M->dI c f cx.nm s M
section
variable{c:GC}{f:Fc}{cx:Cx}{l:Lc}{σ:Sg}{r:Rc}{S:Rs}{nm:List Str}{en:En}{K:KF}{X:KE}
theorem cj.st{K:bj}(S:cj c f nm e m)(E:dw nm en l)(h:m en σ.H K (xE X en))(k:∀v a,K v a.H->G v a):bF c f e l σ G (XS nm X l):=(S en l σ K _ E h).mono k λ_ _ q=>⟨en,E,q⟩
theorem il.st{K:Bool->List MO->Prop}{G:QB}(S:il c f nm e m)(E:dw nm en l)(h:m en σ.H K (xE X en))(k:∀v a,K v a.H->G v a):iR c f e l σ G (XS nm X l):=(S en l σ K _ E h).mono k λ_ _ q=>⟨en,E,q⟩
theorem d6.mono{Q h:Fl->Lc->Sg->Prop}{X X':Lc->QX}(H:d6 c f t l σ Q X)(k:∀fl l' a,Q fl l' a->h fl l' a)(m:∀l' x a,X l' x a->X' l' x a):d6 c f t l σ h X':=λs i => nG (H s i) (λfl s' j l' a r b S q=>⟨j,l',a,r,b,S,k _ _ _ q⟩) λe s' ⟨x,l',a,T,b,S,q⟩=>⟨x,l',a,T,b,S,m _ _ _ q⟩
theorem nH(E:dw nm en l)(h:K fl en H)(e:τ.H=H):QS nm K fl l τ:=⟨en,E,by rw[e];exact h⟩
theorem dw.put(E:dw nm en l)(h:posOf x nm=Y i):dw nm (en.set i (Y v)) (cy x v l):=λz j w b a=>by
 rw[mA];rw[List.getElem?_set]at a;by_cases e:i=j
 .have e1:=w7 h;have e2:=w7 b;rw[←e,e1]at e2;rw[VD (LC e2).symm];rw[VD e]at a;by_cases lt:i < en.length
  .rw[VD lt]at a;exact LC a
  .rw[QE lt]at a;exact bR a
 .rw[QE e]at a;rw[QE λq=>e (by rw[q,h]at b;exact LC b)];exact E z j w b a
theorem tu(i:mO S)(ok:bS c f cx)(st:gZ f cx){e:List ah7}:∀{M:SM},mH S cx e=Y M->AD c f cx.nm e M:=by
 induction e with
 |nil=>exactλ{M} h=>sK (P:=λM=>AD c f cx.nm [] M) h λen l σ K X E h=>Kc (nH E h rfl)
 |cons s rest p =>
  intro M h;induction rest using cL with
  |nil=>exactλen l σ K X E h'=>Kb ((i ok st h en l σ K X E h').mono (λk l' j q=>by induction k using vE with|next=>exact Kc q|brk=>exact q|ret _=>exact q) λ_ _ _ q=>q)
  |cons w rest=>exact bK h λa m h=>bK h λb hb h=>sK (P:=λM=>AD c f cx.nm (s::w::rest) M) h λen l σ K X E h=>Kb ((i ok st m en l σ _ X E h).mono (λk l' j q=>by
    induction k using vE with
    |next=>exact q.elim λen' q=>p hb en' l' j K X q.1 q.2
    |brk=>exact q
    |ret v=>exact q) λ_ _ _ q=>q)
theorem xo(ok:bS c f cx)(st:gZ f cx)(h:xn cx x=Y i):pR f x/\posOf x cx.nm=Y i:=gK h λz h=>⟨by
 rcases akL.mp z with z|z
 .exact .inl ((ok.kd x).trans (zi z))
 .exact .inr ⟨(ok.kd x).trans (HO z),st x (HO z)⟩,h⟩
theorem Rq(h:b6 (sP v)=W)(t:Option LF)(n:Nat)(env:Env):alM v t n env=pure LB:=by
 cases v<;>first|rfl|exact bL h
theorem aii(H:c8 r)(ok:bS c f cx)(h:SQ r cx e=Y M):dI c f cx.nm (.Return e p) M:=by
 cases e with
 |none=>exact sK (P:=λM=>dI c f cx.nm _ M) h λen l σ K X E h=>Xw ⟨en,E,h⟩
 |some e=>exact iU (P:=λM=>dI c f cx.nm _ M) H ok h λm hm en l σ K X E h=>Xv (hm.st E h λv a h=>⟨en,E,h⟩)
theorem aic(H:c8 r)(ok:bS c f cx)(h:SK r cx e=Y M):dI c f cx.nm (.Expr e p) M :=gK h λa h=>iU (P:=λM=>dI c f cx.nm _ M) H ok h λm hm en l σ K X E h=>Xq (Rq a _ _ _) (hm.st E h λv b h=>⟨en,E,h⟩)
theorem aie(H:c8 r)(e:mO S)(ok:bS c f cx)(st:gZ f cx)(h:SO r S cx t a b=Y M):dI c f cx.nm (.If t a b p) M :=
 bK h λmt h1 h=>bK h λm i h=>bK h λmb j h=>sK (P:=λM=>dI c f cx.nm _ M) h λen l σ K X E h=>Xr ((H.t ok h1).st E h λt w h=>by
  cases t with
  |true=>exact tu e ok st i _ _ _ _ _ E (q5 h)
  |false=>exact tu e ok st j _ _ _ _ _ E (q4 h))
theorem Js{go:En->List MO->Prop}{G:Lc->Sg->Prop}(k:∀en l a,dw nm en l->go en a.H->G l a)(h:d6 c f t l σ (QS nm (oU go K)) (XS nm X)):d6 c f t l σ (λfl l' a=>match fl with | .next=>G l' a | .brk=>QS nm K .next l' a | .ret v=>QS nm K (.ret v) l' a) (XS nm X) :=
 h.mono (λfl l' a ⟨en',b,q⟩=>by
  cases fl with
  |next=>exact k _ _ _ b q
  |brk=>exact⟨en',b,q⟩
  |ret v=>exact⟨en',b,q⟩) λ_ _ _ q=>q
theorem ahL(H:c8 r)(e:mO S)(ok:bS c f cx)(st:gZ f cx){t:LF}{b:List ah7}{mt:EM Bool}{mb:SM}(h1:r.T cx t=Y mt)(i:mH S cx b=Y mb)(n:Nat): ∀en l σ,dw cx.nm en l->xB mt mb K X n en σ.H->Wh c f t b (QS cx.nm K) (XS cx.nm X) n l σ:=by
 induction n with
 |zero=>exactλen l σ E h=>h.elim
 |succ n j =>
 refineλen l σ E h=>(H.t ok h1).st E h λt a h=>?_
 induction t using cB with
 |false=>exact nH E (q4 h) rfl
 |true=>exact(Js (λen l a E h=>j en l a E h) (tu e ok st i _ _ _ _ _ E (q5 h))).mono (λk _ _ q=>by cases k<;>exact q) λ_ _ _ q=>q
theorem aik(H:c8 r)(a:mO S)(ok:bS c f cx)(st:gZ f cx){t:LF}{b:List ah7}{p:Pos}{M:SM}(h:SS r S cx t b=Y M):dI c f cx.nm (.While t b [] p) M :=bK h λmt h1 h=>bK h λmb e h=>sK (P:=λM=>dI c f cx.nm _ M) h λen l σ K X E h=>Xz jD (ahL H a ok st h1 e jD en l σ E (cast Aj h))
theorem Tc(ok:bS c f cx)(st:gZ f cx){es:List LF}:∀{is:List Nat}{vs:List O}{en en':En}{l:Lc}{Q:Lc->Sg->Prop}{X:Lc->QX},slotsOf cx es=Y is->nT is vs en=Y en'->dw cx.nm en l->(∀l',dw cx.nm en' l'->Q l' σ)-> noStar es=W/\(ajF es f.env).findIdx? (·.1)=LA/\(ajF es f.env).length=vs.length/\tO c f ((ajF es f.env).map (·.2)) vs l σ Q X:=by
 induction es with
 |nil =>
  intro is vs en en' l Q X h a E k;rw[←LC h]at a;induction vs using cL with
  |nil=>rw[←LC a]at k;exact⟨rfl,rfl,rfl,J2 (k l E)⟩
  |cons v vs=>exact nK a
 |cons e es A =>
 intro is vs en en' l Q X h a E k;refine bK h λx z h=>bK h λi hi h=>bK h λb y h=>?_
 .rw[←LC h]at a;induction vs using cL with
  |nil=>exact nK a
  |cons v vs =>
   have s:=xo ok st hi;refine i4 (A (Q:=Q) (X:=X) y (show nT b vs (en.set i (Y v))=Y en' from a) (E.put (v:=v) s.2) k) λj m p w=>?_;refine tw (P:=λe=>noStar (e::es)=W/\(ajF (e::es) f.env).findIdx? (·.1)=LA/\(ajF (e::es) f.env).length=(v::vs).length/\tO c f ((ajF (e::es) f.env).map (·.2)) (v::vs) l σ Q X) z λpx=>⟨j,?_,?_,?_⟩
   .show List.findIdx? _ ((LB,akj (.Name x px) f.env)::ajF es f.env)=LA;rw[List.findIdx?_cons];simp[m]
   .show(ajF es f.env).length+1=vs.length+1;rw[p]
   .exact J1 (Dp s.1 w)
theorem UH{P:LF->Prop}(h:JG e=Y es)(k:∀a p,P (.Tuple es a p)):P e:=by
 refine ve (eT (K:=λes=>∃a p,e = .Tuple es a p) (by cases e<;>first|exact trivial|exact⟨_,_,rfl⟩) h) λa p h=>?_;rw[h];exact k a p
theorem TM(ok:bS c f cx)(st:gZ f cx)(hq:c.quiet=W)(h:Ae cx t=Y tg)(b:z8 tg v en=Y en')(E:dw cx.nm en l){Q:Lc->Sg->Prop}{X:Lc->QX}(k:∀l',dw cx.nm en' l'->Q l' σ):n0 c f (akj t f.env) v l σ Q X:=aK h
 (λh=>bK h λx y h=>bK h λi hi h=>by
  have s:=xo ok st hi;rw[←LC h]at b;rw[←LC b]at k;exact tw (P:=λt=>n0 c f (akj t f.env) v l σ Q X) y λp=>Dp s.1 (k _ (E.put s.2)))
 λh=>bK h λes he h=>gK h λ_ h=>bK h λis hi h=>by
  rw[←LC h]at b;refine bK (show(aT v).bind _=Y en' from b) λvs w b=>?_;refine i4 (Tc ok st (Q:=Q) (X:=X) hi b E k) λz e j m=>?_;rw[n7 w];exact UH (P:=λt=>n0 c f (akj t f.env) (.tup vs) l σ Q X) he λa p=>JJ hq j e m
theorem abG(x:mO S)(ok:bS c f cx)(st:gZ f cx)(hq:c.quiet=W)(A:Ae cx t=Y tg)(z:mH S cx b=Y mb){a:Nat->bj}{e:Nat->List MO->Prop}(r:List O): ∀(i:Nat) (en:En) (l:Lc) (σ:Sg),(∀j y H,r[j]?=Y y->a (i+j) y H)->(∀H,e (i+r.length) H)->dw cx.nm en l->forL tg mb K X r en σ.H -> Fo c f t b (QS cx.nm K) (XS cx.nm X) a e (r.length+1) i l σ:=by
 induction r with
 |nil=>exactλi en l σ m p E h=>.inr ⟨p _,nH E h rfl⟩
 |cons v r B =>
 intro i en l σ m p E h;exact .inl ⟨v,m 0 v _ rfl,oK h λEA h1 h=>TM ok st hq A h1 E λl' w =>
  (Js (λen l C E h=>B (i+1) en l C (λj y H h=>by have:=m (j+1) y H h;rw[←akJ,akn]at this;exact this) (λH=>by have:=p H;rw[VN,←akJ,akn]at this;exact this) E h) (tu x ok st z _ _ _ _ _ w h)).mono (λk _ _ q=>by cases k<;>exact q) λ_ _ _ q=>q⟩
theorem N5(m:mO S)(ok:bS c f cx)(st:gZ f cx)(hq:c.quiet=W)(A:Ae cx t=Y tg)(p:mH S cx b=Y mb){a:Nat->bj}{e:Nat->List MO->Prop}(x:∀{i y H ys},H[zzJ]?=Y (.lst ys)->ys[i]?=Y y->a i (cond w (.tup [.int i,y]) y) H)(z:∀{i H ys},H[zzJ]?=Y (.lst ys)->ys[i]?=LA->e i H)(n:Nat): ∀(i:Nat) (en:En) (l:Lc) (σ:Sg),dw cx.nm en l->forR tg mb K X zzJ w n i en σ.H->Fo c f t b (QS cx.nm K) (XS cx.nm X) a e n i l σ:=by
 induction n with
 |zero=>exactλi en l σ E h=>h.elim
 |succ n C =>
 intro i en l σ E h;exact oK h λys B h=>bK B λG hm g=>eK h
  (λv hi h=>.inl ⟨_,x (uq hm g) hi,oK h λEA h1 h=>TM ok st hq A h1 E λl' j=>(Js (λen l D E h=>C (i+1) en l D E h) (tu m ok st p _ _ _ _ _ j h)).mono (λk _ _ q=>by cases k<;>exact q) λ_ _ _ q=>q⟩)
  λhi h=>.inr ⟨z (uq hm g) hi,nH E h rfl⟩
theorem aej(l:List O):∀(i j:Nat) (v:O),(zG i l)[j]?=Y v->∃w,l[j]?=Y w/\v = .tup [.int (i+j:Nat),w]:=by
 induction l with
 |nil=>exactλi j v h=>nK h
 |cons x r a =>
  intro i j v h;induction j using cN with
  |zero=>exact⟨x,rfl,(LC h).symm⟩
  |succ j=>exact(a (i+1) j v h).imp λw q=>⟨q.1,by rw[q.2,akn];rfl⟩
theorem aek:∀(l:List O) (i:Nat),(zG i l).length=l.length:=by
 intro l;induction l with
 |nil=>exactλi=>rfl
 |cons x r a=>exactλi=>congrArg (· + 1) (a (i+1))
theorem aid(H:c8 r)(Q:mO S)(ok:bS c f cx)(st:gZ f cx)(h:SN r S cx t it b=Y M):dI c f cx.nm (.For t it b [] p) M :=
 gK h λz h=>aY z λz1 z2=>bK h λtg N h=>bK h λmb hb h=>by
  have hq:=ok.quiet z1;have I:∀x,aeL it f.env x=pure x:=λx=>Iq z2 _ x;have B:∀{en l σ K X C D} {ys:List O},dw cx.nm en l->forL tg mb K X ys en σ.H->(∀j y H,ys[j]?=Y y->C j y H)->(∀H,D ys.length H)->∃n,Fo c f t b (QS cx.nm K) (XS cx.nm X) C D n 0 l σ:=λ{en l σ K X C D ys} E h h1 h2 =>
   ⟨_,abG Q ok st hq N hb ys 0 en l σ (λj y H A=>by rw[aj8];exact h1 j y H A) (λH=>by rw[aj8];exact h2 H) E h⟩
  refine A9 h (λe he h=>?_) λ_ h=>A9 h (λe he h=>bK h λes hes h=>?_) λ_ h=>?_
  .revert I;exact HG (P:=λit=>(∀x,aeL it f.env x=pure x)->dI c f cx.nm (.For t it b [] p) M) ok he λx np p' hn Z g2 I=>iU (P:=λM=>dI c f cx.nm _ M) H ok h λm hm en l σ K X E h=>DA I (Vs hq hn (tU Z g2 ⟨rfl,hm.st E (cast N4 h) λv L h=>oK h λys A h =>
    SD (P:=λv ys=>forL tg mb K X ys en L.H->∃n,v = .int n/\aeK 0 n 1=W/\∃m,Fo c f t b (QS cx.nm K) (XS cx.nm X) (λi x _=>(i:Int)< QG 0 n 1/\x = .int i) (λi _=>QG 0 n 1<=(i:Int)) m 0 l L) A (λn h0 h1 h=>by
     refine bg (Sq h0 h1) λr1 r2=>?_;refine⟨n,rfl,r1,B E h (λj y H A=>?_) λH=>?_⟩
     .refine bg (Jw _ _ _ _ A) λa b=>?_;rw[r2];exact⟨apv.mp a,by rw[b,amn]⟩
     .rw[r2,Uh];exact an4 n) h⟩))
  .revert I;exact HG (P:=λit=>(∀x,aeL it f.env x=pure x)->dI c f cx.nm (.For t it b [] p) M) ok he λx np p' hn Z g2=>UH (P:=λt=>(∀{en l σ K X C D} {ys:List O},dw cx.nm en l->forL tg mb K X ys en σ.H->(∀j y H,ys[j]?=Y y->C j y H)->(∀H,D ys.length H)->∃n,Fo c f t b (QS cx.nm K) (XS cx.nm X) C D n 0 l σ)->Ae cx t=Y tg->(∀x,aeL _ f.env x=pure x)->dI c f cx.nm (.For t _ b [] p) M) hes (λa p'' B N I=>iU (P:=λM=>dI c f cx.nm _ M) H ok h λm hm en l σ K X E h=>DA I (Vq hq hn (tU Z g2 ⟨rfl,hm.st E (cast N1 h) λv L h=>eK h
     (λys A h=>by
      rw[Cv A];refine⟨⟨ys,rfl⟩,B E h (λj y H A=>?_) λH=>⟨ys,rfl,by rw[aek];exact VO (LL _)⟩⟩;refine aM (aej _ _ _ _ A) λw a b=>?_;exact⟨ys,w,rfl,a,by rw[b,aj8]⟩)
     λ_ h=>oK h λq hq' h=>qP hq' λe hk=>by
      rw[e];exact⟨⟨q.2,u4.mpr hk⟩,jD,N5 Q ok st hq N hb (λG hi=>⟨_,_,u4.mpr G,hi,rfl⟩) (λG hi=>⟨_,u4.mpr G,hi⟩) jD 0 en l L E h⟩⟩))) B N
  .exact iU (P:=λM=>dI c f cx.nm _ M) H ok h λm hm en l σ K X E h=>DA I (Vr (hm.st E (cast ET h) λv L h=>eK h
    (λys A h=>aK A
     (λA=>by rw[Cv A];exact⟨_,_,JW hq,B E h (λj y H h=>h) λH=>VO (LL _)⟩)
     λA=>aK A (λA=>by rw[n7 A];exact⟨_,_,JY hq,B E h (λj y H h=>h) λH=>VO (LL _)⟩)
     λA=>bK A λa ha A=>bK A λkvs hk A=>by
      rw[tV ha];rw[←LC A]at h;refine vf (Vp (c:=c) (f:=f) (σ:=L) (tg:=t) hq (ok.T _ _ hk)) λC D k1 k2 k3=>?_;refine⟨C,D,k1,B E h (λj y H A=>?_) λH=>k3 _ _ ?_⟩
      .rw[abI]at A;cases q:kvs[j]? with
       |none=>rw[q]at A;exact bR A
       |some w=>rw[q]at A;rw[←LC A];exact k2 _ _ _ q
      .rw[QC];exact VO (LL _))
    λ_ h=>oK h λj G h=>by
     rw[DK G];exact oK (show oP _ _ from h) λys A _=>bK A λmo hm g=>⟨_,_,JX hq (uq hm g),jD,N5 Q ok st hq N hb (λG hi=>⟨_,G,hi⟩) (λG hi=>⟨_,G,hi⟩) jD 0 en l L E h⟩))
theorem aih(H:c8 r)(ok:bS c f cx)(h:SP r cx e=Y M):dI c f cx.nm (.Raise (Y e) LA p) M :=
 gK h λz h=>aY z λhq _=>iU (P:=λM=>dI c f cx.nm _ M) H ok h λm hm en l σ K X E h=>Xu (ok.quiet hq) (hm.st E h λv C h=>oK h λp b q=>bK b λi b h=>gK h λz h=>aY z λA j=>DQ b λe y=>by
  have h:=LC h;subst h;refine LJ (ok.eH _ (kY A)) λx w=>?_;exact⟨i.1,i.2.1,i.2.2,x,e,y,w,λq=>(by rw[q]at j;exact bL j),λB a=>⟨en,E,by rw[a];exact q⟩⟩)
theorem SA(h:ja c vs xs):ja c.loud vs xs:=by
 induction h with
 |nil=>exact .nil
 |cons a b e=>exact .cons a e
theorem Zb{kvs:List (AK×O)}(h:gX c a kvs):gX c.loud a kvs:=by
 cases h
 .rename_i D R e k;exact gX.«ints» D (SA R) e k
 .rename_i D R e k;exact gX.«strs» D (SA R) e k
theorem aco(ok:bS c f cx)(e:LD):bS c.loud (f.mark e) cx.PA where
 kind:=ok.kind
 kd:=ok.kd
 oX:=ok.oX
 gl:=ok.gl
 fn:=λa F h=>nomatch h
 me:=λn t C F h m=>nomatch h
 cm:=λn t C F h m=>nomatch h
 ex:=ok.ex
 at_:=ok.at_
 st:=ok.st
 dJ:=ok.dJ
 eH:=λC h=>by refine LJ (ok.eH C h) λj b=>?_;exact⟨j,b.at_,b.init,b.fn⟩
 T:=λa i h=>Zb (ok.T a i h)
 it:=ok.it
 hd:=ok.hd
 quiet:=λh=>nomatch h
theorem ZX(nm:List Str)(en:En):dw nm (clean en) []:=λx i v _ h=>by
 rw[clean,abI]at h;cases q:en[i]? with
 |none=>rw[q]at h;exact bR h
 |some w=>rw[q]at h;cases h
theorem ahX{q:Str×Str×List ah7}{P:ExceptHandler->Prop}(e:UC h=Y q)(k:∀b a i p,q.2.2=b::a->P (.ExceptHandler (Y (.Name q.1 i)) (Y q.2.1) (b::a) p)):P h:=by
 cases h with
 |ExceptHandler t x b p =>
  exact bK e λB j e=>bK e λy w e=>bK e λA m e=>gK e λz e=>by
   induction b using cL with
   |nil=>exact bL z
   |cons b a =>
    rw[j,m];refine tw (P:=λt=>P (.ExceptHandler (Y t) (Y A) (b::a) p)) w λi=>?_;have e:=LC e;subst e;exact k b a i p rfl
theorem ZL(L:mO S)(ok:bS c f cx)(st:gZ f cx):∀{y:List Hd}{C:Nat}{fs:List (Str×O)},EZ S cx hs=Y y->dw cx.nm en l->q7 K y C fs en σ.H->Catch c f (QS cx.nm K) ⟨C,fs⟩ l σ hs:=by
 induction hs with
 |nil=>intro y C fs h E e;rw[←LC h]at e;exact e.elim
 |cons I rest ih =>
 intro y C fs h E e;exact bK h λq hq h=>bK h λg Z h=>bK h λD T h=>gK h λhk h=>bK h λi hi h=>bK h λpr lH h=>bK h λm hm h=>bK h λM Q h=>by
  rw[←LC h]at e;refine ahX (P:=λI=>Catch c f (QS cx.nm K) ⟨C,fs⟩ l σ (I::rest)) hq λb bs yp p hb=>yI ok Z λA zq=>jU zq λw B j G=>?_;rw[tV T]at j G;have hw:w = .ref D:=(G ⟨λ_=>0,0,λ_=>False⟩ λ_ _=>id).BQ;have kS:c.mg q.1=Y (.ref D):=by
   rcases j with j|⟨j,_⟩
   .rw[j,hw]
   .exact absurd rfl (j D)
  rw[hb]at hm;exact cK e (λa h=>.hit ⟨D,B,A,kS,(ok.hd _ _ lH).1 _ (kY a)⟩ ⟨(ok.kd q.2.1).trans (zi hk),λN =>
   (tu L (aco ok N) (λz hz=>st z hz) hm _ _ σ _ _ (E.put hi) h).mono (λk l' τ q=>q.elim λen' q=>⟨_,ZX _ en',q.2⟩) λl' x τ q=>q.elim λ_ q=>q.2⟩)
   λ_ h=>bE h λa h=>.miss ⟨D,B,A,kS,(ok.hd _ _ lH).2 _ (kY a)⟩ (ih Q E h)
theorem aij(i:mO S)(ok:bS c f cx)(st:gZ f cx)(h:SR S cx b e=Y M):dI c f cx.nm (.Try b e [] [] p) M :=
 gK h λz h=>aY z λ_ nn=>bK h λmb hb h=>bK h λj a h=>sK (P:=λM=>dI c f cx.nm _ M) h λen l σ K X E h'=>by
  induction e using cL with
  |nil=>exact bL nn
  |cons m e=>exact Xy ((tu i ok st hb en l σ _ _ E h').mono (λ_ _ _ q=>q) λl' x w q=>q.elim λen' q=>ZL i ok st a q.1 q.2)
noncomputable abbrev w8(p:Str×O)(l:Lc):Lc:=cy p.1 p.2 l
theorem abF{n:Str}{v:O}{l:Lc}:∀{a:List (Str×O)},(∀p∈a,p.1≠n)->∀z,(a.foldr w8 (cy n v l)).lookup z=(cy n v (a.foldr w8 l)).lookup z:=by
 intro a;induction a with
 |nil =>
  exact@λ_ z=>rfl
 |cons p a b =>
  exact@λh z=>by
   show(cy p.1 p.2 (a.foldr w8 (cy n v l))).lookup z=(cy n v (cy p.1 p.2 (a.foldr w8 l))).lookup z;rw[mA,b (λq hq=>h q (.tail _ hq)) z,mA,mA,mA];by_cases e:z=n
   .rw[QE λq=>h p (.head _) (q.symm.trans e),VD e,VD e]
   .rw[QE e,QE e]
inductive kC (cx:Cx):List LF->List Str->List Nat->Prop
 |nil:kC cx [] [] []
 |cons {x p i es xs is}:xn cx x=Y i->kC cx es xs is->kC cx (.Name x p::es) (x::xs) (i::is)
theorem ad1:∀{es:List LF}{is:List Nat},slotsOf cx es=Y is->∃xs,kC cx es xs is:=by
 intro es;induction es with
 |nil =>
  exact@λis h=>sK (P:=λis=>∃xs,kC cx [] xs is) h ⟨[],.nil⟩
 |cons e es w =>
  exact@λis h=>bK h λx m h=>bK h λi hi h=>bK h λb j h=>sK (P:=λis=>∃xs,kC cx (e::es) xs is) h (by
   refine LJ (w j) λxs a=>?_;exact tw (P:=λe=>∃xs,kC cx (e::es) xs (i::b)) m λp=>⟨x::xs,.cons hi a⟩)
theorem kC.mem(ok:bS c f cx)(st:gZ f cx)(N:kC cx es xs is):∀x∈xs,∃i∈is,pR f x/\posOf x cx.nm=Y i:=by
 induction N with
 |nil=>exactλx m=>nomatch m
 |cons h r a=>exactλx m=>(VM.mp m).elim (λe=>⟨_,.head _,by rw[e];exact xo ok st h⟩) λm=>aM (a x m) λi hi k=>⟨i,.tail _ hi,k⟩
theorem kC.len(N:kC cx es xs is):es.length=xs.length/\is.length=xs.length:=by
 induction N with
 |nil=>exact⟨rfl,rfl⟩
 |cons _ r a=>exact⟨congrArg (· + 1) a.1,congrArg (· + 1) a.2⟩
theorem Tb:∀{is:List Nat}{vs:List O}{en en':En},nT is vs en=Y en'->is.length=vs.length
 | [],[],_,_,_=>rfl
 | [],_::_,_,_,h=>nomatch h
 |_::_,[],_,_,h=>nomatch h
 |i::is,v::vs,en,en',h=>congrArg (· + 1) (Tb (is:=is) (vs:=vs) (en:=en.set i (Y v)) (en':=en') h)
theorem ag2(ok:bS c f cx)(st:gZ f cx)(N:kC cx es xs is):∀{vs:List O}{en en':En}{l:Lc},zB is=W->nT is vs en=Y en'->dw cx.nm en l->dw cx.nm en' ((xs.zip vs).foldr w8 l):=by
 induction N with
 |nil =>
  exactλ{vs en en' l} _ m E=>by
   induction vs using cL with
   |nil=>rw[←LC m];exact E
   |cons _ _=>exact bR m
 | @cons x p i es xs is h r G =>
  exactλ{vs en en' l} nd m E=>by
   induction vs using cL with
   |nil=>exact bR m
   |cons v vs =>
    exact aY (b:=zB is) nd λA B=>by
     have k2:=(xo ok st h).2;have z:=G B (show nT is vs (en.set i (Y v))=Y en' from m) (E.put (v:=v) k2)
     refineλy j w a b=>(abF (λp D q=>?_) y).symm.trans (z y j w a b)
     refine jU (r.mem ok st p.1 (ajE D).1) λj C _ e=>?_;rw[q,k2]at e;rw[←LC e]at C;exact ald ((sY A).symm.trans ((QU i is).mpr C))
theorem afV{a:List Str}{xs:List O}(h:xs.length=a.length)(l:Lc):(a.reverse.zip xs.reverse).foldl (λl p=>cy p.1 p.2 l) l=(a.zip xs).foldr w8 l:=by
 have e:a.reverse.zip xs.reverse=(a.zip xs).reverse:=(List.reverse_zipWith (f:=Prod.mk) h.symm).symm;rw[e,List.foldl_reverse]
theorem abv{g:LF->Option Str}(a:∀x p,g (.Name x p)=LA∨g (.Name x p)=Y x)(N:kC cx es xs is):(es.filterMap g).length=es.length->es.filterMap g=xs:=by
 induction N with
 |nil=>exactλ_=>rfl
 | @cons x p i es xs is h r b =>
  exactλe=>by
   rw[akK]at e ⊢;rcases a x p with q|q
   .rw[q]at e;have le:(es.filterMap g).length<=es.length:=List.length_filterMap_le g es;exact absurd (LI (ajS (show(es.filterMap g).length=es.length+1 from e).symm) le) (Nat.not_succ_le_self _)
   .rw[q]at e ⊢;exact congrArg (x :: ·) (b (akQ e))
def vv(xs:List Str)(z:Sem (Option (List Str))):Prop:=z=pure LA∨z=pure (Y xs)
theorem ag3(N:kC cx es xs is)(a:Jg v=W):ajs [.Tuple es k p] v env=pure LA∨ajs [.Tuple es k p] v env=pure (Y xs):=by
 cases v<;>first|exact .inl rfl|skip
 rename_i vs i j
 have a:cond (vs.all (foldedForSure 8)) W (b6 (vs.all (constantsAlone 8)))=W:=a;unfold ajs;show vv xs _;refine wq (P:=vv xs) (λ_=>.inl rfl) λ_=>wq (P:=vv xs) (λ_=>.inl rfl) λ_=>wq (P:=vv xs) (λ_=>.inl rfl) λb=>wq (P:=vv xs) (λ_=>.inl rfl) λe=>wq (P:=vv xs) (λh=>?_) λ_=>?_
 .rw[Bool.not_eq_true]at e;rw[e,h]at a;exact bL a
 .rw[alq,not_or,bne_iff_ne,bne_iff_ne,Classical.not_not]at b;refine .inr (congrArg (λl=>pure (Y l)) (abv (λx p=>?_) N b.1));exact wq (P:=λz=>z=LA∨z=Y x) (λ_=>.inr rfl) λ_=>.inl rfl
theorem zF(h:b6 (sP v)=W):ak9 [t] v n env=pure LB:=Rq h (Y t) n env
theorem qS.mono{f':Fc}{l:Lc}{a:Sg}{X i:QX}{K e:Bool->Sg->Prop}{ifs:List LF}(h:qS c f' l a X K ifs)(k:∀b a,K b a->e b a)(j:∀x a,X x a->i x a):qS c f' l a i e ifs:=by
 induction ifs using cL with
 |nil=>exact k _ _ h
 |cons t r =>
  induction r using cL with
  |nil=>exact xQ.mono h k j
  |cons _ _=>exact h
theorem Cp.mono{f':Fc}{x:Str}{p:LF}{ifs:List LF}{m:Lc}{D:Nat}{e:Nat->bj}{j:Nat->List MO->Prop}{Q A:List O->Sg->Prop}{X B:QX}(k:∀a τ,Q a τ->A a τ)(E:∀x τ,X x τ->B x τ){n:Nat}: ∀{i:Nat}{acc:List O}{τ:Sg},Cp c f' x p ifs m D e j Q X n i acc τ->Cp c f' x p ifs m D e j A B n i acc τ:=by
 induction n with
 |zero=>exactλh=>h
 |succ n C=>exactλh=>h.imp (λh=>h.imp λy h=>⟨h.1,h.2.mono (λb τ h=>by
   induction b using cB with
   |true=>exact j4.mono h (λz H h=>h.imp λacc h=>⟨h.1,h.2.1,λG w=>C (h.2.2 G w)⟩) E
   |false=>exact C h) E⟩) λh=>⟨h.1,k _ _ h.2⟩
theorem kH.mono{tg e:LF}{p a:(Nat->bj)->(Nat->List MO->Prop)->Sg->Prop}{X X':QX}(H:kH c f tg e l σ p X)(k:∀g s b,p g s b->a g s b)(A:∀x b,X x b->X' x b):kH c f tg e l σ a X':=λs z => QP (H s z) (λv y i g st m j D q=>⟨i,g,st,m,j,D,k _ _ _ q⟩) λe s' ⟨x,l',h,T,w,S,el,q⟩=>⟨x,l',h,T,w,S,el,A _ _ q⟩
theorem aia(ok:bS c f cx)(st:gZ f cx)(hq:c.quiet=W){es:List LF}{k:Nat}{v:LF}{tp p:Pos}{is:List Nat}{m:EM O}(y:b6 (sP v)=W)(w:Jg v=W)(hi:slotsOf cx es=Y is)(nd:zB is=W)(hm:cj c f cx.nm v m):dI c f cx.nm (.Assign [.Tuple es k tp] v p) (cX is m):=λen l σ K X E h=>by
 refine LJ (ad1 hi) λxs N=>?_;have run:∀{G:QV},(∀vs en' a,nT is vs en=Y en'->K .next en' a.H->G (.tup vs) a)->bF c f v l σ G (XS cx.nm X l):=λ{G} k=>hm.st E h λx a h=>oK h λen' h1 q=>bK h1 λvs L b=>by rw[n7 L];exact k vs en' a b q
 rcases ag3 (k:=k) (p:=tp) (env:=jK f.env.scope) N w with hw|hw
 .refine AB (zF y) hw rfl (run λvs en' a b h=>?_);refine i4 (Tc (c:=c) (f:=f) (σ:=a) ok st (Q:=λj e=>QS cx.nm K .next j e) (X:=XS cx.nm X) hi b E λl' A=>nH A h rfl) λM B C D=>?_;exact JJ hq C B D
 .refine Xx hq (zF y) hw (λn I=>by refine jU (N.mem ok st n I) λi _ k _=>?_;exact k) (run λvs en' a b h=>?_);have z:vs.length=xs.length:=(Tb b).symm.trans N.len.2;refine⟨vs,rfl,z,?_⟩;rw[afV z];exact nH (ag2 ok st N nd b E) h rfl
theorem abQ{Q:Fl->Lc->Sg->Prop}{X:Lc->QX}(H:d6 c f t l σ (λfl l' b=>fl = .next/\∃k m z,l'=cy y (.ref k) l/\b.H[k]?=Y m/\rB m=Y z/\∀B:Sg,B.H=b.H.set k .dead->Q .next (cy y z l) B) X):d6 c f t l σ Q X:=λs C =>
 nG (H s C) (λfl s' I l' b r i S q=>by
  obtain⟨j,k,m,z,E,D,G,q⟩:=q;subst j E;have a:=i.free k;refine⟨.next,cy y z l,b.free k,?_,⟨a.g,a.ns,λx w h=>?_,a.iS,a.own,a.nd,a.kind,a.glob,a.lW,a.top⟩,S.trans (aJ.free k),q _ rfl⟩
  .cases fl<;>first|exact r|exact r.elim
  .rw[mA]at h;by_cases e:x=y
   .rw[VD e]at h;refine aM (i.vars x (.ref k) (by rw[mA,VD e])) λv A rv=>?_;rw[rv.nR.1]at A;exact⟨_,A,by rw[←LC h];exact EU i.g D G⟩
   .rw[QE e]at h;exact a.vars x w (by rw[mA,QE e];exact h)) λ_ _ p=>p
theorem adq(ok:bS c f cx)(h:HY cx x px sc p=W):alM (.ListComp elt gens sc p) (Y (.Name x px)) n (jK f.env.scope)=pure W:=aY h λh y=>aY h λh w=>aY h λz m=>by
 show(pure ((jK f.env.scope).blockKind == .function&&(jK f.env.scope).kindOf x == Y .local&&px.line == p.line && !(sc.names.any λ(n,k)=>n == x&&(k == .local||k == .cell))):Sem Bool)=pure W
 congr 1
 have b1:((jK f.env.scope).blockKind == .function)=W:=by
  show((if f.env.scope.kind.isAnnotationScope then ScopeKind.function else f.env.scope.kind) == .function)=W;rw[ok.kind];rfl
 have b2:((jK f.env.scope).kindOf x == Y .local)=W:=by
  rw[show(jK f.env.scope).kindOf x=Y .local from(ok.kd x).trans (zi m)];rfl
 have b:(sc.names.any λ(n,k)=>n == x&&(k == .local||k == .cell))=LB:=by
  rw[List.any_eq_false];intro a e q;obtain⟨n,k⟩:=a;refine aY q λi j=>?_;have:=sY (AJ y _ e);rw[vJ,i]at this;cases k<;>first|exact absurd j (by decide)|exact qK this
 rw[b1,b2,b,w];rfl
theorem UE{q:LF×List akI×ajB×Pos}{P:LF->Prop}(h:JF e=Y q)(k:P (.ListComp q.1 q.2.1 q.2.2.1 q.2.2.2)):P e:=by
 rw[eT (K:=λq=>e = .ListComp q.1 q.2.1 q.2.2.1 q.2.2.2) (by cases e<;>first|exact trivial|exact rfl) h];exact k
theorem aif(ok:bS c f cx)(st:gZ f cx){x:Str}{px p q:Pos}{i:Nat}{m:EM O}{j:LF}{a:List akI}{sc:ajB}(hi:xn cx x=Y i)(z:HY cx x px sc q=W){I:Rc}(H':c8 I)(L:yl I cx j a sc=Y m):dI c f cx.nm (.Assign [.Name x px] (.ListComp j a sc q) p) (aZ i m):=λen l σ K X E h=>by
 refine zP (M8 L) λx' D G ifs e C=>?_;rw[e];have c:=xo ok st hi;refine bg (C.run (px:=D) H' ok E h) λN k2=>?_;refine abQ (y:=x) (Xp (Q:=λfl l' b=>fl = .next/\∃k m z,l'=cy x (.ref k) l/\b.H[k]?=Y m/\rB m=Y z/\∀w:Sg,w.H=b.H.set k .dead->QS cx.nm K .next (cy x z l) w) (ok.quiet C.q) N (Iq C.set _) (adq ok z) c.1 ?_);exact k2.mono (λg s w h f' T Z A=>(h f' T Z A).elim λn M=>⟨n,M.mono (λacc π q=>⟨rfl,q.imp λk q=>q.imp λmo q=>q.imp λzz q=>⟨by rw[q.1],q.2.1,q.2.2.1,λψ B=>nH (E.put c.2) (q.2.2.2 ψ B) rfl⟩⟩) λx w q=>⟨en,E,q⟩⟩) λx w q=>⟨en,E,q⟩
theorem ag0:ajs [.Name x p] v env=pure LA:=by cases v<;>rfl
theorem agZ:ajs [.Attribute a x p] v env=pure LA:=by cases v<;>rfl
theorem ag1:ajs [.Subscript a b p] v env=pure LA:=by cases v<;>rfl
theorem ah9(H:c8 r)(ok:bS c f cx)(st:gZ f cx)(L:SI r cx t v=Y M0)(N:∀m,r.E cx v=Y m->∀q,JF v=Y q->∃G,c8 G/\yl G cx q.1 q.2.1 q.2.2.1=Y m):dI c f cx.nm (.Assign [t] v p) M0:=eT (K:=λM=>dI c f cx.nm (.Assign [t] v p) M) (by
 cases t<;>first|exact trivial|refine eW λM h=>?_
 case Name x px =>
  exact bK h λi hi h=>A9 h
   (λq hq h=>gK h λz h=>bK h λm hm h=>sK (P:=λM=>dI c f cx.nm _ M) h (by
    refine aM (N m hm q hq) λG H' A=>?_;exact UE (P:=λv=>dI c f cx.nm (.Assign [.Name x px] v p) (aZ i m)) hq (aif ok st hi z H' A)))
   λ_ h=>gK h λA h=>iU (P:=λM=>dI c f cx.nm _ M) H ok h λm hm en l σ K X E h=>by
    have s:=xo ok st hi;exact AB (zF A) ag0 rfl (hm.st E h λy I h=>Dp s.1 (nH (E.put s.2) h rfl))
 case Tuple es k tp =>
  exact gK h λz h=>aY z λz z4=>aY z λz z3=>aY z λZ _=>bK h λis hi h=>gK h λnd h=>iU (P:=λM=>dI c f cx.nm _ M) H ok h λm hm=>aia ok st (ok.quiet Z) z3 z4 hi nd hm
 case Attribute o a ap =>
  exact gK h λA h=>bK h λq hq h=>mW (P:=λM=>dI c f cx.nm _ M) H ok h λQ T B D en l σ K X E h =>
   AB (zF A) agZ rfl (D.st E h λy I h=>UO (B.st E h λw ρ h=>oK h λH' C h=>Xm (ok.st _ _ hq) C λπ j=>nH E h j))
 case Subscript o i ap =>
  exact gK h λA h=>bK h λQ B h=>mW (P:=λM=>dI c f cx.nm _ M) H ok h λmi T hi D en l σ K X E h =>
   AB (zF A) ag1 rfl (D.st E h λy I h=>UQ ((H.e ok B).st E h λa ρ h=>hi.st E h λb ψ h=>oK h λH' C h=>Ka C λπ j=>nH E h j))) L
theorem Vl{k:Nat}{xs:List O}{i:Int}{j:Nat}{y:O}{Q:QV}{X:QX}(m:σ.H[k]?=Y (.lst xs))(e:aeO i xs.length=Y j)(lo : -(2 ^ 63)<=i)(hi:i < 2 ^ 63)(x:xs[j]?=Y y)(h:Q y σ):bY c f amb (.ref k) (.int i) l σ Q X:=λv w s b r z=>by
 refine LJ z.int_inv λt a=>?_;subst a;refine bg r.nR λa _=>?_;subst a;refine dD (b.g.objs k _ m) λ_ vs n g r=>?_;refine aM (r.get x) λu p A=>?_;exact list_item g rfl rfl (by rw[r.length];exact e) lo hi p (dF b A h)
theorem Ws{a b:Int}{Q:QV}{X:QX}(h:Q (.int (a+b)) σ):bY c f (inplaceOp .Add) (.int a) (.int b) l σ Q X:=λv w s i r j=>by
 refine LJ r.int_inv λt e=>?_;subst e;refine LJ j.int_inv λu e=>?_;subst e;exact wpAny_iadd_int ((dF i (.int _ _) h))
theorem Y4{x:O}{i a:Int}{P:Prop}(h:xT x (.int i) σ.H=Y a)(k:∀j xs m,x = .ref j->σ.H[j]?=Y (.lst xs)->qH i=W->aeO i xs.length=Y m->xs[m]?=Y (.int a)->P):P :=
 bK h λp A h=>qP A λe z=>bK h λy b h=>bK b λB w b=>by
  rw[←LC w]at b;exact gK b λsm b=>bK b λm hm b=>k p.1 p.2 m e z sm hm (by rw[b,lV h])
theorem aib(H:c8 r)(ok:bS c f cx){t v:LF}{A:amr}{p:Pos}{M:SM}(h:SJ r cx t A v=Y M):dI c f cx.nm (.AugAssign t A v p) M :=
 bK h λq hq h=>bK h λi hi h=>gK h λz h=>by
  have e1:∃tp,t = .Subscript q.1 q.2 tp:=eT (K:=λq=>∃tp,t = .Subscript q.1 q.2 tp) (by cases t<;>first|exact trivial|exact⟨_,rfl⟩) hq;have e2:A = .Add:=bT (by cases A<;>first|exact trivial|exact rfl) z;refine LJ e1 λtp e1=>?_;rw[e1,e2];exact UD (P:=λI=>dI c f cx.nm (.AugAssign (.Subscript q.1 I tp) .Add v p) M) hi λa b=>mW (P:=λM=>dI c f cx.nm _ M) H ok h λL m G hm en l σ K X E h=>Xn (λ_ _ _=>rfl) (G.st E h λx Q h=>KA (oK h λa' C h=>Y4 C λj xs n e D sm e1 e2=>by
   rw[e];exact Vl D e1 (pE sm).1 (pE sm).2 e2 (hm.st E h λy N h=>oK h λH' w h=>bK w λb hb w=>by
    rw[e]at w;rw[lV hb];exact Ws (Ka w λT B=>nH E h B))))
theorem ab4(a:mO S)(ok:bS c f cx)(st:gZ f cx)(h:Oo (rc (n+1)) S cx s=Y M):dI c f cx.nm s M:=eT (K:=λM=>dI c f cx.nm s M) (by
 have H:=Ss (n+1);cases s<;>first|exact trivial|refine eW λM h=>?_
 .exact aii H ok h
 ·
  exact bK h λt b h=>by
   rw[iI b];exact ah9 H ok st h λm hm q hq=>⟨rc n,Ss n,by rename_i v _;revert hm;exact UE (P:=λv=>(rc (n+1)).E cx v=Y m->_) hq λhm=>hm⟩
 .exact aib H ok h
 .exact gK h λz h=>by rw[lK z];exact aid H a ok st h
 .exact gK h λz h=>by rw[lK z];exact aik H a ok st h
 .exact aie H a ok st h
 .exact bK h λe he h=>gK h λz h=>by rw[he,Ck z];exact aih H ok h
 .exact gK h λz h=>aY z λi j=>by rw[lK i,lK j];exact aij a ok st h
 .exact aic H ok h
 .exact sK (P:=λM=>dI c f cx.nm _ M) h λen l σ K X E h=>Xs ⟨en,E,h⟩
 .exact sK (P:=λM=>dI c f cx.nm _ M) h λen l σ K X E h=>Xo ⟨en,E,h⟩) h
theorem af3(n:Nat):∀m,mO (rs (rc (n+1)) m):=by
 intro m;induction m with
 |zero =>
  exactλ_ _ _ _ h=>nomatch h
 |succ m a =>
  exactλok st _ _ h=>ab4 (a) ok st h
theorem aae(ok:bS c f cx)(st:gZ f cx)(h:comp (n+1) cx b=Y M):AD c f cx.nm b M:=tu (af3 n (n+1)) ok st h
end
structure Am (c:GC) (N:Nat) (cx:Cx) (sc:ajB):Prop where
 kind:sc.kind = .function
 kd:cx.kd=sc.names
 oX:∀x∈cx.nm,u7 x=W
 gl:∀x v,look x cx.gl=Y v->nZ c x v
 fn:∀a F,eM a cx.fn=Y F->dO c N (.ref a) F/\dX c (.ref a)
 me:∀n tab C F,look n cx.me=Y tab->eM C tab=Y F->∃a,jH c.K C/\qV c.K C n a/\dO c N (.ref a) F/\dX c (.ref a)
 cm:∀C t n F,eM C cx.cm=Y t->look n t=Y F->∃a mc,akA c.K (.ref C) "__getattribute__" = Y (Y (.builtin "type.__getattribute__"))/\amc c.K C mc=W/\ake c.K (.ref C) mc n=Y (.val (.ref a))/\dO c N (.ref a) F/\dX c (.ref a)
 ex:ake c.K (.type "Exception") (.type "type") "__init__" = Y (.val (.builtin "Exception.__init__"))
 at_:∀n p,look n cx.at_=Y p->Ak c.K n p
 st:∀n p,look n cx.st=Y p->AE c.K n p
 dJ:Aq c.K cx.dJ
 eH:Ap c cx.eH
 T:lh c cx.T
 it:As cx.it
 hd:∀D p,eM D cx.hd=Y p->(∀C∈p.1,pH c C D W)/\∀C∈p.2,pH c C D LB
 quiet:cx.quiet=W->c.quiet=W
section
variable{c:GC}{N:Nat}{cx:Cx}
theorem Am.ok(G:Am c N cx sc)(e:N<=f.n)(j:f.env.scope=sc):bS c f cx where
 kind:=by rw[j];exact G.kind
 kd:=λx=>by show f.env.scope.names.lookup x=_;rw[j,G.kd,oS]
 oX:=λx i h=>IA (G.oX x (aj4 (w7 h)))
 gl:=G.gl
 fn:=λa F h=>⟨(G.fn a F h).1.up e,(G.fn a F h).2⟩
 me:=λn t C F h b=>(G.me n t C F h b).imp λa q=>⟨q.1,q.2.1,q.2.2.1.up e,q.2.2.2⟩
 cm:=λn t C F h b=>(G.cm n t C F h b).imp λa q=>q.imp λl q=>⟨q.1,q.2.1,q.2.2.1,q.2.2.2.1.up e,q.2.2.2.2⟩
 ex:=G.ex
 at_:=G.at_
 st:=G.st
 dJ:=G.dJ
 eH:=G.eH
 T:=G.T
 it:=G.it
 hd:=G.hd
 quiet:=G.quiet
theorem Zk(nd:ps.Nodup)(n:Nat)(f:vs.length<=ps.length):dw (ps++rest) (Aa vs n) (ps.zip vs):=λx i v h a=>by
 have hi:i < vs.length:=aoy λe=>by
  rw[Aa,alX (by rw[QC];exact e),eV,List.getElem?_replicate]at a
  split at a<;>cases a
 rw[Aa,ajA (by rw[QC];exact hi),abI]at a;have j:vs[i]?=Y v:=by
  cases q:vs[i]? with
  |none=>rw[q]at a;exact bR a
  |some w=>rw[q]at a;exact congrArg Y (LC (LC a))
 have b:=w7 h;rw[ajA (LR hi f)]at b;have l:(ps.zip vs)[i]?=Y (x,v):=by rw[ajC];exact⟨b,j⟩
 exact Cy (JI nd) _ (aj4 l)
theorem Zl{a b p:Nat}(h:p<=a+b)(k:a<=p):a+(b - (a+b - p))<=p:=by omega
theorem Zh{np:Nat}{defs xs vs:List O}(h:Mw np defs xs=Y vs){a:FI}(i:a.params.length=np)(f:a.defs=defs):a.bind xs=Y (a.params.zip vs)/\vs.length<=np:=gK h λz h=>aY z λb e=>by
 have b:=LQ b;have e:=LQ e;subst i f;have h:=LC h;subst h;refine⟨?_,?_⟩
 .unfold FI.bind;rw[VD ⟨b,e⟩]
 .rw[LN,amu];exact Zl b e
theorem Ob{a:LP}{i:FI}{z:Nat}{defs:List O}{e n:Nat}{b:SM}{rest:List Str}(F:pI c a i)(G:Am c N cx i.scope)(l:cx.nm=i.params++rest)(y:i.params.length=z)(C:i.defs=defs)(hb:comp (n+1) cx i.body=Y b):dO c (N+1) (.ref a) (bz z defs e b):=by
 intro m hm xs σ K X h;refine LJ (akW (LI (amD 1 N) hm)) λm j=>?_;subst j;refine oK h λvs p h=>?_;refine bg (Zh p y C) λI k2=>?_;refine ZI F I λf B fs fc=>?_;have ok:bS c f cx:=G.ok (B▸ada hm) fs;have st:gZ f cx:=λx H=>fc x (by rw[←G.kd,←oS];exact H);refine pg F λM fd D _=>?_;have E:dw cx.nm (Aa vs e) (i.params.zip vs):=by rw[l];exact Zk D.nodup _ (y▸k2)
 exact(aae ok st hb _ _ σ _ _ E h).mono (λk l' L w=>aM w λen' A q=>by cases k<;>exact q) λl' x L w=>aM w λen' A q=>q
theorem j0.mono(H:j0 c n fv xs σ Q X)(k:∀x b,Q x b->Q' x b)(i:∀x b,X x b->X' x b):j0 c n fv xs σ Q' X':=λpv fr A s a G r =>
 aj6 (H pv fr A s a G r) λh s' p=>by
  cases h with
  |ok f=>cases f<;>first|exact p.elim|exact p.imp λx p=>p.imp λe p=>⟨p.1,p.2.1,p.2.2.1,k _ _ p.2.2.2⟩
  |error v=>exact p.imp λx p=>p.imp λe p=>⟨p.1,p.2.1,p.2.2.1,i _ _ p.2.2.2⟩
theorem Q7{i:LP}{F:Fn}{e:MO}{m:Nat}{xs:List O}{σ f:Sg}{K:bj}{X:KX}(h:dO c (N+1) (.ref i) F)(hm:N+1<=m)(a:f.H=σ.H++[e])(q:Ij e F xs σ.H K X):j0 c m (.ref i) (.ref σ.H.length::xs) f (λr b=>r = .none/\QK K (.ref σ.H.length) b) (XK X):=by
 have q:F (.ref σ.H.length::xs) (σ.H++[e]) (λr G=>bP (qo r) (K (.ref σ.H.length) G)) X:=q;rw[←a]at q;exact(h m hm _ f _ _ q).mono (λx j q=>bE (show bP (qo x) (K (.ref σ.H.length) j.H) from q) λz q=>⟨wk z,q⟩) λ_ _ q=>q
theorem ah8(hm:makesIn c.K C=W)(hi:aeJ c.K (.ref C) "__init__" = Y (Y (.ref fI)))(e:alo c.K (.ref fI)=Y (.type "function"))(h:dO c (N+1) (.ref fI) F):dO c (N+2) (.ref C) (nV C F):=by
 intro m kS xs σ K X q;refine LJ (akW (LI (amD 2 N) kS)) λm a=>?_;subst a;exact call_cls hm hi e λf b=>Q7 h (ada kS) b q
theorem abb(e:tC c C fI)(h:dO c (N+1) (.ref fI) F):dO c (N+2) (.ref C) (An C F):=by
 intro m kS xs σ K X q;refine LJ (akW (LI (amD 2 N) kS)) λm a=>?_;subst a;exact bE q λz q=>call_exc e (eg z) λf b=>Q7 h (ada kS) b q
theorem j0.freeze(H:j0 c n fv xs σ (λy h=>∃k m z,y = .ref k/\h.H[k]?=Y m/\rB m=Y z/\∀l:Sg,l.H=h.H.set k .dead->Q z l) X):j0 c n fv xs σ Q X:=λpv fr A s i G r =>
 aj6 (H pv fr A s i G r) λj s' p=>by
  cases j with
  |ok f =>
   cases f<;>first|exact p.elim|skip
   obtain⟨x,h,a,b,d,k,m,z,e,w,B,q⟩:=p;rw[e]at a;exact⟨z,h.free k,by rw[a.nR.1];exact EU b w B,b.free k,d.trans (aJ.free k),q _ rfl⟩
  |error v=>exact p
theorem Oc(h:dO c N fv F):dO c N fv (xK F):=λm hm xs σ K X q =>
 j0.freeze ((h m hm xs σ _ _ q).mono (λx w q=>oK q λp a q=>bK a λk f a=>bK a λj e a=>bK a λz i a=>⟨k,j,z,DK f,e,i,λl b=>by
  rw[←LC a]at q;show K z l.H;rw[b];exact q⟩) λ_ _ q=>q)
theorem dO.le(h:dO c N fv F)(k:∀xs H K X,F' xs H K X->F xs H K X):dO c N fv F':=λm hm xs σ K X e=>h m hm xs σ K X (k _ _ _ _ e)
end
noncomputable def all2{a b:Type}(p:a->b->Bool):List a->List b->Bool
 | [],m=>(match m with | []=>W|_::_=>LB)
 |x::r,m=>match m with
  | []=>LB
  |y::q=>match p x y with|true=>all2 p r q|false=>LB
noncomputable def fN(a:Nat):aeb->Option Obj
 | []=>LA
 |(x,o)::r=>match LK a x with|true=>Y o|false=>fN a r
noncomputable def JA:LD->Option String
 | .type c=>Y c
 |_=>LA
noncomputable def Nd:Data->Option (Array LD)
 | .seq vs _=>Y vs
 |_=>LA
noncomputable def Rm{a:Type}:Option a->Bool
 |none=>W
 |some _=>LB
def Jo(o:Obj):Option (List LD):=(JA o.cls).bind λc=>(Nd o.data).bind λvs=>gd (c == "tuple" && Rm o.dict&&kZ o.slots.toList) (Y vs.toList)
noncomputable def pf{b:Type}(o:Option b)(f:b->Bool):Bool:=match o with|some a=>f a|none=>LB
noncomputable def D5(x:O):LD->Bool
 | .builtin s=>(match x with | .bi t=>s == t|_=>LB)
 | .type s=>(match x with | .ty t=>s == t|_=>LB)
 |_=>LB
def qm(K:aeb):Nat->LD->O->Bool
 |0,_,_=>LB
 |n+1,v,x=>match v with
  | .none=>qo x
  | .bool a=>(match x with | .bool b=>a == b|_=>LB)
  | .int i _=>(match x with | .int j=>Bb i j|_=>LB)
  | .str s _=>(match x with | .str t=>eu s t|_=>LB)
  | .ref a=>(match x with
   | .gl b=>LK a b
   | .tup xs=>pf ((fN a K).bind Jo) λvs=>all2 (qm K n) vs xs
   |_=>LB)
  |w=>D5 x w
section
variable{c:GC}
theorem abX(a:Nat):∀K:aeb,fN a K=K.lookup a:=by
 intro K;induction K with
 |nil =>
  exact rfl
 |cons e r b =>
  obtain⟨x,o⟩:=e;exact by
   show(match LK a x with|true=>Y o|false=>fN a r)=_;rw[VC,b];cases h:LK a x with
   |true=>have:=VH h;subst this;simp
   |false=>have:=aku h;rw[VF.mpr this]
theorem rC(h:fN a c.K=Y o):c.base.get? a=Y o:=c.KX _ _ (by rw[←abX];exact h)
theorem qA{b:Type}{o:Option b}{f:b->Bool}{P:Prop}(h:pf o f=W)(k:∀a,o=Y a->f a=W->P):P:=by
 induction o with|none=>exact bL h|some a=>exact k a rfl h
theorem Ur{v:LD}{t:String}(h:JA v=Y t):v = .type t:=eT (K:=λt=>v = .type t) (by cases v<;>first|exact trivial|exact rfl) h
theorem aan{d:Data}{vs:Array LD}(h:Nd d=Y vs):∃n,d = .seq vs n:=eT (K:=λvs=>∃n,d = .seq vs n) (by cases d<;>first|exact trivial|exact⟨_,rfl⟩) h
theorem T8{o:Obj}{vs:List LD}(h:Jo o=Y vs):∃n,o = { cls:=.type "tuple",data:=.seq vs.toArray n} :=
 bK h λc i h=>bK h λws hw h=>gK h λz h4=>aY z λz m=>aY z λj l=>(aan hw).elim λn e=>⟨n,by
  obtain⟨a,b,dt,sl⟩:=o;have e1:a = .type "tuple":=by rw[show a=_ from Ur i,eq_of_beq j]
  have e2:b=LA:=by induction b with|none=>rfl|some _=>exact bL l
  have f:sl = #[]:=aoz.mp (lK m);rw[e1,e2,f,show dt=_ from e,←LC h4]⟩
theorem KN{a b:Type}{p:a->b->Bool}{x:a}{r:List a}{m:List b}{P:List b->Prop}(h:all2 p (x::r) m=W)(k:∀y q,p x y=W->all2 p r q=W->P (y::q)):P m:=by
 induction m using cL with
 |nil=>exact bL h
 |cons y q =>
  have h:(match p x y with|true=>all2 p r q|false=>LB)=W:=h;cases e:p x y with
  |true=>rw[e]at h;exact k y q e h
  |false=>rw[e]at h;exact bL h
theorem KO{b a:Type}{p:b->a->Bool}{m:List a}{P:List a->Prop}(h:all2 p [] m=W)(k:P []):P m:=by
 induction m using cL with|nil=>exact k|cons _ _=>exact bL h
theorem YS{K:aeb}{n:Nat}{V:Vw}{h:VG}(i:∀v x,qm K n v x=W->Rel V h v x)(vs:List LD):∀xs,all2 (qm K n) vs xs=W->bh V h vs xs:=by
 induction vs with
 |nil=>exactλxs e=>KO (P:=λxs=>bh V h [] xs) e .nil
 |cons v vs f=>exactλxs e=>KN (P:=λxs=>bh V h (v::vs) xs) e λy q a b=>.cons (i _ _ a) (f q b)
theorem Mt{V:Vw}{a:VG}{v:LD}{x:O}(h:D5 x v=W):Rel V a v x:=by
 cases v<;>first|exact bL h|(cases x<;>first|exact bL h|(rw[eq_of_beq h];first|exact .bi _|exact .ty _))
theorem acB(j:∀a,c.base.get? a≠LA->¬V.T a)(n:Nat):∀v x,qm c.K n v x=W->Rel V c.base v x:=by
 induction n with
 |zero=>exactλv x h=>bL h
 |succ n l =>
  intro v x h;cases v with
  |none=>rw[wk h];exact .none
  |bool a=>cases x<;>first|exact bL h|(rw[eq_of_beq h];exact .bool _)
  |int i t=>cases x<;>first|exact bL h|(rw[(Bc _ _).mp h];exact .int _ _)
  |str i t=>cases x<;>first|exact bL h|(rw[(q8 _ _).mp h];exact .str _ _)
  |ref a =>
   cases x with
   |gl b=>rw[VH h];exact .gl _
   |tup xs =>
    exact qA h λvs q h=>bK q λo f q=>(T8 q).elim λm e=>.tup (j _ (by rw[rC f];exactλq=>sN q)) (e▸rC f) (YS l _ _ h)
   |_=>exact bL h
  |_=>exact Mt h
theorem Cb(h:qm c.K n v x=W):pK c v x:=λV a=>acB a n v x h
noncomputable def yk(o:Obj):Option (List QA):=match o with
 |⟨_,_,.dict es _,_⟩=>Y es.toList
 |_=>LA
def HC(n:Str):LD->Bool
 | .str s _=>eu s n
 |_=>LB
def rA(n:Str):List QA->Option LD
 | []=>LA
 |e::r=>match HC n e.key with|true=>Y e.val|false=>rA n r
noncomputable def aec:O->Bool | .gl _=>LB|_=>W
noncomputable def aez{e:Type}(o:Option e)(f:e->Bool)(b:Bool):Bool:=match o with|some a=>f a|none=>b
def Oj(K:aeb)(es:List QA)(p:Str×O):Bool:=u7 p.1&&aez (rA p.1 es) (λw=>qm K 20 w p.2) (aec p.2 && !(eu p.1 ⟨⟨[95,95,110,97,109,101,95,95]⟩⟩)&&pf (bootBuiltins p.1) λw=>D5 p.2 w)
def EW(K:aeb)(gl:List (Str×O)):Bool:=pf (fN ajp K) λo=>pf (yk o) λes=>bt (Oj K es) gl
theorem abn(n:Str):∀es:List QA,rA n es=nsFind es.toArray n:=by
 intro es;show _=aoJ (λn v=>v.isStr n) es.toArray n;unfold aoJ;rw[←Array.find?_toList];induction es with
 |nil=>rfl
 |cons e r a =>
  show(match HC n e.key with|true=>Y e.val|false=>rA n r)=_;rw[List.find?_cons];have:HC n e.key=e.key.isStr n:=by
   cases e.key<;>first|rfl|(show eu _ _=_;rw[vJ];rfl)
  rw[this];dsimp only;cases e.key.isStr n
  .exact a
  .rfl
theorem Ie(h:(fN ajp c.K).bind yk=Y es)(n:Str):rA n es=c.mg n:=bK h λo j e=>by
 refine ph c.top.g λl a f h1 b _ i=>?_;rw[show l=o from LC (h1.symm.trans (rC j))]at b;rw[←i,abn];obtain⟨_,_,d,_⟩:=o;rw[show d = .dict a f from b]at e;rw[show es=a.toList from(LC e).symm]
theorem ab0(hb:(fN ajp c.K).bind yk=Y es){p:Str×O}(h:Oj c.K es p=W):nZ c p.1 p.2:=aY h λb h=>by
 have b:=(IA b).1;cases hw:rA p.1 es with
 |some w=>rw[hw]at h;exact⟨w,b,.inl ((Ie hb _).symm.trans hw),Cb h⟩
 |none =>
  rw[hw]at h;exact aY h λz h=>aY z λf i=>qA h λw e h=>⟨w,b,.inr ⟨λa q=>by rw[q]at f;exact bL f,(Ie hb _).symm.trans hw,by
   rw[c.top.builtins,e];intro q;rw[q]at i;exact absurd i (by decide +kernel)⟩,λV j=>Mt h⟩
theorem ab2(h:EW c.K gl=W):∀x v,look x gl=Y v->nZ c x v:=qA h λo e h=>qA h λes a h=>λx v b=>by
 rw[mR]at h;have hm:(x,v)∈gl:=by rw[oS]at b;exact Ic b
 exact ab0 (es:=es) (by rw[e];exact a) (UA.mp h _ hm)
end
noncomputable def Nc:Data->Option (Array QA)
 | .dict es _=>Y es
 |_=>LA
def pT(o:Obj):Option (List QA):=(JA o.cls).bind λc=>(Nc o.data).bind λes=>gd (c == "dict" && Rm o.dict&&kZ o.slots.toList) (Y es.toList)
noncomputable def Uq:LD->Option Int
 | .int i _=>Y i
 |_=>LA
noncomputable def vSt:LD->Option Str
 | .str i _=>Y i
 |_=>LA
noncomputable def KJ:AK->Option Int
 | .int i=>Y i
 | .str _=>LA
noncomputable def KL:AK->Option Str
 | .int _=>LA
 | .str i=>Y i
def ND(K:aeb)(e:QA)(p:AK×O):Bool:=pf (Uq e.key) λi=>pf (KJ p.1) λj=>Bb i j&&(e.hash == hashInt i)&&qm K 20 e.val p.2
def NF(K:aeb)(e:QA)(p:AK×O):Bool:=pf (vSt e.key) λi=>pf (KL p.1) λj=>eu i j&&qm K 20 e.val p.2
def wF:List (AK×O)->Bool
 | []=>W
 |p::r=>bt (λq=>b6 (pV p.1 q.1)) r&&wF r
def tZ(e:aeb->QA->AK×O->Bool)(K:aeb)(a:Nat)(b:List (AK×O)):Bool:=match fN a K with
 |some o=>(match pT o with|some es=>all2 (e K) es b&&wF b&&b6 (a == agK)|none=>LB)
 |none=>LB
section
variable{c:GC}
theorem aam{d:Data}{es:Array QA}(h:Nc d=Y es):∃n,d = .dict es n:=eT (K:=λes=>∃n,d = .dict es n) (by cases d<;>first|exact trivial|exact⟨_,rfl⟩) h
theorem aar{o:Obj}{es:List QA}(h:pT o=Y es):∃ep,o.ExactDict/\o.data = .dict es.toArray ep :=
 bK h λc b h=>bK h λws hw h=>gK h λz h4=>aY z λz i=>aY z λf a=>(aam hw).elim λn e=>⟨n,
  ⟨by rw[Ur b,eq_of_beq f],by cases q:o.dict with|none=>rfl|some _=>rw[q]at a;exact bL a,aoz.mp (lK i)⟩,by rw[e,←LC h4]⟩
theorem ahG{v:LD}{i:Int}(h:Uq v=Y i):∃t,v = .int i t:=eT (K:=λi=>∃t,v = .int i t) (by cases v<;>first|exact trivial|exact⟨_,rfl⟩) h
theorem YQ{k:AK}{i:Int}(h:KJ k=Y i):k = .int i:=eT (K:=λi=>k = .int i) (by cases k<;>first|exact trivial|exact rfl) h
theorem YR{k:AK}{i:Str}(h:KL k=Y i):k = .str i:=eT (K:=λi=>k = .str i) (by cases k<;>first|exact trivial|exact rfl) h
def JP(c:GC){K:Type} [DecidableEq K] (m:KeyKind c.prog c.w K) (g:K->AK) (e:QA) (p:AK×O) (i:K):Prop:=m.is i e.key=W/\e.hash=m.hash i/\pK c e.val p.2/\p.1=g i
def Dv(c:GC){K:Type} [DecidableEq K] (m:KeyKind c.prog c.w K) (g:K->AK) (es:List QA) (a:List (AK×O)) (is:List K) (vs:List LD) (xs:List O):Prop :=(∀e∈es,∃k,m.is k e.key=W/\e.hash=m.hash k)/\Pairs m es (is.zip vs)/\ja c vs xs/\is.length=vs.length/\a=(is.map g).zip xs/\(is.zip vs).map (·.1)=is
theorem ents{K:Type} [DecidableEq K] {m:KeyKind c.prog c.w K}{g:K->AK}{l:QA->AK×O->Bool}{es:List QA}:∀{j:List (AK×O)},(∀e∈es,∀p,l e p=W->∃i,JP c m g e p i)->all2 l es j=W->∃is vs xs,Dv c m g es j is vs xs:=by
 induction es with
 |nil=>exactλ_ h=>KO (P:=λj=>∃is vs xs,Dv c m g [] j is vs xs) h ⟨[],[],[],λe m=>(by exact fj m),.nil,.nil,rfl,rfl,rfl⟩
 |cons e es A =>
  exactλhe h=>KN (P:=λj=>∃is vs xs,Dv c m g (e::es) j is vs xs) h λp q h1 x=>RP (A (λe m=>he e (.tail _ m)) x) λis vs xs a b d z f y =>
   qB (he e (.head _) p h1) λi r1 B C D=>⟨i::is,e.val::vs,p.2::xs,by
    refine⟨λe' m=>?_,.cons r1 rfl b,.cons C d,congrArg (· + 1) z,?_,congrArg (i :: ·) y⟩
    .rcases VM.mp m with w|m
     .rw[w];exact⟨i,r1,B⟩
     .exact a e' m
    .rw[f];exact congrArg (· :: _) (apw D rfl)⟩
theorem ad3:∀{a:List (AK×O)},wF a=W->(a.map (·.1)).Nodup:=by
 intro a;induction a with
 |nil =>
  exact@λ_=>.nil
 |cons p r b =>
  exact@λh=>by
   have h:(bt (λq=>b6 (pV p.1 q.1)) r&&wF r)=W:=h;rw[LM,mR]at h;rw[VR,VI];refine⟨λm=>?_,b h.2⟩;refine aM (aak.mp m) λq hq e=>?_;have:=UA.mp h.1 q hq;rw[zE,(NG _ _).mpr e.symm]at this;exact bL this
theorem ad4{a e:Type}{g:a->e}:∀{l:List a},(l.map g).Nodup->l.Nodup:=by
 intro l;induction l with
 |nil =>
  exact@λ_=>.nil
 |cons x r b =>
  exact@λh=>by
   rw[VR,VI]at h;exact VI.mpr ⟨λm=>h.1 (aak.mpr ⟨x,m,rfl⟩),b h.2⟩
theorem UL{e f:Type}:∀{a:List e}{b:List f},a.length=b.length->(a.zip b).map (·.1)=a
 | [],[],_=>rfl
 | [],_::_,h=>by cases h
 |_::_,[],h=>by cases h
 |x::a,y::b,h=>congrArg (x :: ·) (UL (by simpa using h))
theorem aal{b:aeb->QA->AK×O->Bool}{K:aeb}(h:tZ b K a kvs=W):∃o es,fN a K=Y o/\pT o=Y es/\all2 (b K) es kvs=W/\wF kvs=W/\(a == agK)=LB:=by
 unfold tZ at h;cases q:fN a K with
 |none=>rw[q]at h;exact bL h
 |some o =>
  rw[q]at h;have h:(match pT o with|some es=>all2 (b K) es kvs&&wF kvs&&b6 (a == agK)|none=>LB)=W:=h;cases r:pT o with
  |none=>rw[r]at h;exact bL h
  |some es =>
   rw[r]at h;exact aY h λh e=>aY h λh1 f=>⟨o,es,rfl,r,h1,f,by rw[zE]at e;exact(ak6 _).mp e⟩
theorem Nf{K:Type} [DecidableEq K] {m:KeyKind c.prog c.w K}{g:K->AK}{kvs:List (AK×O)}(h:tZ ent c.K a kvs=W) (he:∀es,(fN a c.K).bind pT=Y es->∀e∈es,∀p,ent c.K e p=W->∃i,JP c m g e p i) (k:∀(is:List K) (vs:List LD) (xs:List O) (f:Nat),c.base.DictAt m a (is.zip vs) f->ja c vs xs->is.length=vs.length->(a == agK)=LB->gX c a ((is.map g).zip xs)):gX c a kvs:=
 nM (aal h) λo es y b h1 A B=>aM (aar b) λf E C=>RP (ents (he es (by rw[y];exact b)) h1) λis vs xs e1 e2 j l x z=>by
  have D:is.length=xs.length:=l.trans j.length;have nd:=ad3 A;rw[x,UL (by rw[QC];exact D)]at nd;rw[x];exact k is vs xs f ⟨o,es.toArray,rC y,E,C,λe m=>e1 e (by simpa using m),by simpa using e2,by rw[z];exact ad4 nd⟩ j l B
theorem aao{kvs:List (AK×O)}(h:tZ ND c.K a kvs=W):gX c a kvs :=
 Nf (m:=aof c.prog c.w) (g:=.int) h (λ_ _ e _ p h1=>qA h1 λi hi h1=>qA h1 λj f h1=>aY h1 λh1 b=>aY h1 λh1 h4=>(ahG hi).elim λt l =>
  ⟨i,by rw[l];exact abk i,eq_of_beq h4,Cb b,(YQ f).trans (by rw[(Bc _ _).mp h1])⟩) λ_ _ _ _=>.«ints»
theorem aap{kvs:List (AK×O)}(y:(fN a c.K).bind pT=Y es)(z:∀e∈es,∃s t,e.key = .str s t/\e.hash=hashStr c.w s)(h:tZ NF c.K a kvs=W):gX c a kvs :=
 Nf (m:=strKind c.prog c.w) (g:=.str) h (λf q e b p h1=>qA h1 λi hi h1=>qA h1 λj x h1=>aY h1 λh1 l=>by
  have b:e∈es:=by rw[LC (y.symm.trans q)];exact b
  refine pg (z e b) λs t e1 e2=>?_;rw[e1]at hi;have hi:=LC hi;exact⟨s,by rw[e1];exact abk s,e2,Cb l,(YR x).trans (by rw[←(q8 _ _).mp h1,←hi])⟩) λ_ _ _ _=>.«strs»
end
noncomputable def vD(fd:ajx):List ah7:=match fd.body with | .stmts b=>b|_=>[]
noncomputable def P6(fd:ajx):Bool:=match fd.body with | .stmts _=>W|_=>LB
def rq(fd:ajx)(a:List Str)(defs:List O):FI:=⟨a,defs,fd.scope,vD fd⟩
noncomputable def Cj:anA->Bool | .function=>W|_=>LB
noncomputable def Cg:aaW->Bool | .cell=>W|_=>LB
noncomputable def isLocal:Option aaW->Bool|some .local=>W|_=>LB
noncomputable def PZ:Option aaW->Bool|some .local=>W|some .cell=>W|_=>LB
def cellsOf:List (Str×aaW)->List Str
 | []=>[]
 |(n,k)::r=>match Cg k with|true=>n::cellsOf r|false=>cellsOf r
def ro(K:aeb)(a:Nat)(fd:ajx)(b:List Str):Bool :=P6 fd&&LK fd.globals ajp&&LK fd.builtins al2&&fd.closure.isEmpty&&codeIn K fd.code fd.qualname&&b6 fd.scope.isCoroutine&&b6 fd.scope.isGenerator&&Cj fd.scope.kind&&amU K (.ref a)&&isFn K (.ref a)&&wG b
def w6(fd:ajx)(a:List Str):Bool:=bt (λp:Str×aaW=>b6 (Cg p.2)) fd.scope.names&&bt (λp=>isLocal (look p fd.scope.names)) a
def Ej(fd:ajx)(a:List Str):Bool:=wG (cellsOf fd.scope.names)&&bt (λp=>PZ (look p fd.scope.names)) a
section
variable{c:GC}
theorem PX{k:anA}(h:Cj k=W):k = .function:=bT (by cases k<;>first|exact trivial|exact rfl) h
theorem BI(I:fN a c.K=Y o)(H:o.data = .func fd)(h:ro c.K a fd ps=W):JR c a (rq fd ps defs) o fd:=by
 unfold ro at h;simp only[LM]at h;refine bg h λb y=>?_;refine bg b λe x=>?_;refine bg e λf G=>?_;refine bg f λi E=>?_;refine bg i λj A=>?_;refine bg j λl z=>?_;refine bg l λm D=>?_;refine bg m λp h4=>?_;refine bg p λw C=>?_;refine bg w λh1 B=>?_;rw[zE,ak6]at z A;refine⟨rC I,H,?_,rfl,VH B,VH C,by simpa using h4,D,z,A,?_,G,x,Ii y⟩
 .show fd.body = .stmts (vD fd);unfold P6 at h1;unfold vD;revert h1;cases fd.body<;>intro h1<;>first|exact rfl|exact nomatch h1
 .exact PX E
theorem acW(h:isLocal o=W):o=Y .local:=bT (by cases o with|none=>exact trivial|some k=>cases k<;>first|exact trivial|exact rfl) h
theorem acV(h:PZ o=W):o=Y .local∨o=Y .cell:=bT (by cases o with|none=>exact trivial|some k=>cases k<;>first|exact trivial|exact .inl rfl|exact .inr rfl) h
theorem NW(l:fN a c.K=Y o)(j:o.data = .func fd)(h:ro c.K a fd ps=W)(f:w6 fd ps=W)(hb:∀(s:LG) (b:List LD),c.base.StaysIn s.heap->ps.length<=b.length+defs.length->b.length<=ps.length->∃lY,ja c lY (defs.drop (b.length+defs.length - ps.length))/\BindsTo s fd ⟨b,[]⟩ (ps.zip (b++lY))):pI c a (rq fd ps defs):=by
 unfold w6 at f;rw[LM,mR,mR]at f;refine⟨o,fd,BI l j h,.inl ⟨λx m e=>?_,λp i=>?_,hb⟩⟩
 .have:=UA.mp f.1 x m;rw[e]at this;exact bL this
 .rw[←oS];exact acW (UA.mp f.2 p i)
theorem NX(i:fN a c.K=Y o)(f:o.data = .func fd)(h:ro c.K a fd ps=W)(j:w6 fd ps=W)(hb:∀b:List LD,b.length=ps.length->alc fd ⟨b,[]⟩=pure (ps.zip b)):pI c a (rq fd ps []):=
 NW i f h j λs b _ h1 l=>⟨[],by rw[alP];exact .nil,by
  have e:b.length=ps.length:=by simp at h1;lia
  rw[VJ];exact BindsTo.of_eq (hb b e)⟩
theorem Ek:∀(a:List (Str×aaW)) (n:Nat) (acc:List (Str×LP)),(akh n a acc).map (·.1)=(cellsOf a).reverse++acc.map (·.1)
 | [],n,acc=>rfl
 |(x,k)::r,n,acc=>by
  show((if (k == .cell)=W then akh (n+1) r ((x,n)::acc) else akh n r acc)).map (·.1)=(match Cg k with|true=>x::cellsOf r|false=>cellsOf r).reverse++_;by_cases q:k = .cell
  .subst q;rw[VD (show(akd == akd)=W from rfl),Ek];show _=(x::cellsOf r).reverse++_;simp
  .have b:¬((k == akd)=W):=by simpa using q
   have e:Cg k=LB:=by cases k<;>first|rfl|exact absurd rfl q
   rw[QE b,Ek,e]
theorem aby(j:fN a c.K=Y o)(i:o.data = .func fd)(h:ro c.K a fd ps=W)(e:Ej fd ps=W)(hb:∀b:List LD,b.length=ps.length->alc fd ⟨b,[]⟩=pure (ps.zip b)):pI c a (rq fd ps []):=by
 unfold Ej at e;rw[LM,mR]at e;refine⟨o,fd,BI j i h,.inr ⟨rfl,λn=>?_,λp f=>?_,hb⟩⟩
 .rw[Ek,apq,VJ];exact Io (Ii e.1)
 .have:=UA.mp e.2 p f;rw[←oS];rcases acV this with q|q
  .exact .inl q
  .exact .inr ⟨q,λn=>by refine LJ (MR (x:=p) n (.inl (by rw[←oS];exact q)) (acc:=[])) λx l=>?_;rw[l];rfl⟩
theorem zm(h:amU c.K (.ref a)=W):dX c (.ref a):=dX.K h
end
noncomputable def wo:Option (Option LD)->Bool|some LA=>W|_=>LB
noncomputable def uU(t:String):Option (Option LD)->Bool|some (Y (.builtin s))=>s == t|_=>LB
noncomputable def zf:Option Bool->Bool|some b=>b|none=>LB
noncomputable def Hz:Option Bool->Bool|some b=>b6 b|none=>LB
def A3(K:aeb)(C:Nat):Bool:=aoo K C "" && uU "object.__setattr__" (aeJ K (.ref C) "__setattr__")&&anq K C&&ajM K C
def NU(K:aeb)(C:Nat)(n:Str):Bool:=wo (aeJ K (.ref C) n)&&wo (ak1 K C n)
def NN(K:aeb)(C:Nat):Bool:=uU "BaseException.__getattribute__" (aeJ K (.ref C) "__getattribute__")&&wo (aeJ K (.ref C) "__getattr__")&&zf (mroIn K C (.type "BaseException"))&&ajM K C
def EN(K:aeb)(C:Nat)(n:Str):Bool:=uU "object.__setattr__" (aeJ K (.ref C) "__setattr__")&&vN K C&&wo (ak1 K C n)&&ajM K C
def AL(K:aeb)(t:List (Str×(List Nat×List Nat))):Bool:=bt (λp=>bt (λC=>A3 K C&&NU K C p.1) p.2.1&&bt (λC=>NN K C&&wo (aeJ K (.ref C) p.1)&&EN K C p.1) p.2.2) t
def Qc(K:aeb)(D:Nat):Bool:=aoo K D "__class__" && ajM K D&&uU "object.__class__" (aeJ K (.ref D) "__class__")&&uU "getset_descriptor.__get__" (akA K (.builtin "object.__class__") "__get__")&&zf (takesIn K (.builtin "object.__class__"))&&zf (mroIn K D (.type "object"))
def Ca(K:aeb)(a:List Nat):Bool :=bt (λD=>isIn K (.ref D) D&&Qc K D&&Hz (kitOne K (.type "NoneType") (.ref D))) a&&bt (λC=>bt (λD=>LK C D||kin_not K C D) a) a&&zf (kitOne K (.type "str") (.type "str"))&&Hz (kitOne K (.type "list") (.type "str"))
section
variable{c:GC}{K:aeb}
theorem ze{o:Option (Option LD)}(h:wo o=W):o=Y LA:=bT (by cases o with|none=>exact trivial|some k=>cases k<;>first|exact trivial|exact rfl) h
theorem wm{o:Option (Option LD)}(h:uU t o=W):o=Y (Y (.builtin t)):=by
 induction o using cO with
 |none=>exact bL h
 |some k =>
  induction k using cO with
  |none=>exact bL h
  |some v=>revert h;cases v<;>intro h<;>first|exact congrArg (λs=>Y (Y (anh s))) (eq_of_beq h)|exact nomatch h
theorem Cm(h:zf o=W):o=Y W:=by induction o using cO with|none=>cases h|some b=>exact congrArg Y h
theorem PW(h:Hz o=W):o=Y LB:=by
 induction o using cO with
 |none=>exact bL h
 |some b=>cases b<;>first|rfl|exact bL h
theorem MV(h:A3 K C=W):jH K C:=by
 unfold A3 at h;simp only[LM]at h;exact⟨h.1.1.1,wm h.1.1.2,h.1.2,h.2⟩
theorem KV{t:List (Str×(List Nat×List Nat))}(h:AL K t=W):(∀n p,look n t=Y p->Ak K n p)/\∀n p,look n t=Y p->AE K n p:=by
 unfold AL at h;rw[mR]at h;have a:∀n p,look n t=Y p->(∀C∈p.1,jH K C/\tD K C n)/\∀C∈p.2,(Ao K C/\aeJ K (.ref C) n=Y LA)/\EN K C n=W:=λn p b=>by
  rw[oS]at b;have:=UA.mp h _ (Ic b);rw[LM,mR,mR]at this;refine⟨λC f=>?_,λC f=>?_⟩
  .have:=UA.mp this.1 C f;rw[LM]at this;refine bg this λe k2=>?_;unfold NU at k2;rw[LM]at k2;exact⟨MV e,ze k2.1,ze k2.2⟩
  .have:=UA.mp this.2 C f;rw[LM,LM]at this;refine bg this λi j=>?_;refine bg i λe k2=>?_;unfold NN at e;simp only[LM]at e;exact⟨⟨⟨wm e.1.1.1,ze e.1.1.2,Cm e.1.2,e.2⟩,ze k2⟩,j⟩
 refine⟨λn p b=>⟨(a n p b).1,λC f=>((a n p b).2 C f).1⟩,λn p b=>⟨(a n p b).1,λC f=>?_⟩⟩;have:=((a n p b).2 C f).2;unfold EN at this;simp only[LM]at this;exact⟨wm this.1.1.1,this.1.1.2,ze this.1.2,this.2⟩
theorem acw(h:Ca K dJ=W):Aq K dJ:=by
 unfold Ca at h;simp only[LM,mR]at h;refine bg h λa h4=>?_;refine bg a λb i=>?_;refine bg b λh1 f=>?_;refine⟨λD e=>?_,λC j D e p=>?_,Cm i,PW h4⟩
 .have:=UA.mp h1 D e;simp only[LM]at this;refine bg this λa m=>?_;refine bg a λl k2=>?_;unfold Qc at k2;simp only[LM]at k2;exact⟨l,⟨k2.1.1.1.1.1,k2.1.1.1.1.2,wm k2.1.1.1.2,wm k2.1.1.2,Cm k2.1.2,Cm k2.2⟩,PW m⟩
 .have:=UA.mp (UA.mp f C j) D e;rw[alq]at this;rcases this with k|k
  .exact absurd (VH k) p
  .exact k
end
noncomputable def zd(a:Nat):Option (Option LD)->Bool|some (Y (.ref b))=>LK b a|_=>LB
noncomputable def zc:Option LD->Bool|some (.type t)=>t == "function" |_=>LB
section
variable{c:GC}{N:Nat}
theorem HE{o:Option (Option LD)}(h:zd a o=W):o=Y (Y (.ref a)):=by
 induction o using cO with
 |none=>exact bL h
 |some k =>
  induction k using cO with
  |none=>exact bL h
  |some v=>revert h;cases v<;>intro h<;>first|exact congrArg (λs=>Y (Y (aaS s))) (VH h)|exact nomatch h
theorem HB(h:zc o=W):o=Y (.type "function"):=by
 induction o using cO with
 |none=>exact bL h
 |some v=>revert h;cases v<;>intro h<;>first|exact congrArg (λs=>Y (Value.type s)) (eq_of_beq h)|exact nomatch h
def lj(c:GC)(N:Nat)(a:Nat)(F:Fn):Prop:=dO c N (.ref a) F/\dX c (.ref a)
theorem lj.up(h:lj c N a F)(k:VZ N M=W):lj c M a F:=⟨h.1.up (LQ k),h.2⟩
theorem lj.le(h:lj c N a F)(k:N<=M):lj c M a F:=⟨h.1.up k,h.2⟩
def qT(c:GC)(N:Nat)(l:List (Nat×Fn)):Prop:=∀a F,eM a l=Y F->lj c N a F
theorem qT.nil:qT c N []:=λa F h=>by exact bR h
theorem qT.cons(h:lj c N a F)(t:qT c N l):qT c N ((a,F)::l):=λb G hb =>
 zv hb (λe1 e2=>by rw[e1,←e2];exact h) λhb=>t b G hb
def tK(c:GC)(N:Nat)(n:Str)(l:List (Nat×Fn)):Prop:=∀C F,eM C l=Y F->∃a,jH c.K C/\qV c.K C n a/\dO c N (.ref a) F/\dX c (.ref a)
theorem tK.nil:tK c N n []:=λa F h=>by exact bR h
def zy(K:aeb)(C:Nat)(n:Str)(a:Nat):Bool:=A3 K C&&zd a (aeJ K (.ref C) n)&&zc (alo K (.ref a))
theorem tK.cons(b:zy c.K C n a=W)(h:lj c N a F)(t:tK c N n l):tK c N n ((C,F)::l):=λD G hb =>
 zv hb (λe1 e2=>by
  unfold zy at b;rw[LM,LM]at b;rw[e1,←e2];exact⟨a,MV b.1.1,⟨HE b.1.2,HB b.2⟩,h.1,h.2⟩) λhb=>t D G hb
def qU(c:GC)(N:Nat)(l:List (Str×List (Nat×Fn))):Prop:=∀n tab C F,look n l=Y tab->eM C tab=Y F->∃a,jH c.K C/\qV c.K C n a/\dO c N (.ref a) F/\dX c (.ref a)
theorem qU.nil:qU c N []:=λn t C F h=>by exact bR h
theorem qU.cons{l:List (Str×List (Nat×Fn))}(h:tK c N n tab)(t:qU c N l):qU c N ((n,tab)::l):=λm b C F hm a =>
 H5 hm (λe1 e2=>by rw[e1];exact h C F (e2▸a)) λhm=>t m b C F hm a
def qR(c:GC)(N:Nat)(l:List (Nat×List (Str×Fn))):Prop:=∀C t n F,eM C l=Y t->look n t=Y F->∃a b,akA c.K (.ref C) "__getattribute__" = Y (Y (.builtin "type.__getattribute__"))/\amc c.K C b=W/\ake c.K (.ref C) b n=Y (.val (.ref a))/\dO c N (.ref a) F/\dX c (.ref a)
theorem qR.nil:qR c N []:=λn t C F h=>by exact bR h
theorem qR.cons{l:List (Nat×List (Str×Fn))}(h1:akA c.K (.ref C) "__getattribute__" = Y (Y (.builtin "type.__getattribute__")))(i:amc c.K C mc=W)(j:ake c.K (.ref C) mc n=Y (.val (.ref a)))(h:lj c N a F)(t:qR c N l):qR c N ((C,[(n,F)])::l):=λD p m G b hm =>
 zv b (λe1 e2=>H5 (e2▸hm) (λe f=>by rw[e1,e,←f];exact⟨a,mc,h1,i,j,h.1,h.2⟩) λhm=>(by exact bR hm)) λb=>t D p m G b hm
structure vt where
 gl:List (Str×O)
 at_:List (Str×(List Nat×List Nat))
 dJ:List Nat
 eH:List Nat
 T:Bd
 it:List (Str×Int)
 hd:List (Nat×(List Nat×List Nat))
noncomputable def vt.cx(s:vt)(nm:List Str)(kd:List (Str×aaW))(b:List (Nat×Fn))(e:List (Str×List (Nat×Fn)))(a:List (Nat×List (Str×Fn)))(f:List (Nat×Nat)):Cx :=⟨nm,kd,s.gl,b,e,a,s.at_,s.at_,s.dJ,s.eH,s.T,s.it,s.hd,f,W⟩
structure pL (c:GC) (s:vt):Prop where
 gl:EW c.K s.gl=W
 ex:ake c.K (.type "Exception") (.type "type") "__init__" = Y (.val (.builtin "Exception.__init__"))
 at_:AL c.K s.at_=W
 dJ:Ca c.K s.dJ=W
 eH:Ap c s.eH
 T:lh c s.T
 it:As s.it
 hd:∀D p,eM D s.hd=Y p->(∀C∈p.1,pH c C D W)/\∀C∈p.2,pH c C D LB
 quiet:c.quiet=W
theorem Nb(B:pL c s){kd:List (Str×aaW)}{fn me cm qM}(e:Cj sc.kind=W)(a:kd=sc.names)(b:bt u7 nm=W)(F:qT c N fn)(M:qU c N me)(C:qR c N cm):Am c N (s.cx nm kd fn me cm qM) sc where
 kind:=PX e
 kd:=a
 oX:=λx f=>by rw[mR]at b;exact UA.mp b x f
 gl:=ab2 B.gl
 fn:=F
 me:=M
 cm:=C
 ex:=B.ex
 at_:=(KV B.at_).1
 st:=(KV B.at_).2
 dJ:=acw B.dJ
 eH:=B.eH
 T:=B.T
 it:=B.it
 hd:=B.hd
 quiet:=λ_=>B.quiet
end
structure FR where
 i:Nat
 defs:List O
 rest:List Str
 fn:List Nat
 me:List (Str×List (Nat×Nat))
 cm:List (Nat×Str×Nat)
 qM:List (Nat×Nat)
 b:SM
abbrev Tab:=List (Nat×Nat×Fn)
noncomputable def A6:Data->Option ajx
 | .func fd=>Y fd
 |_=>LA
def p4(K:aeb)(a:Nat):ajx:=((fN a K).bind λo=>A6 o.data).getD default
def Ci(K:aeb)(a:Nat):Bool:=nB ((fN a K).bind λo=>A6 o.data)
noncomputable def gV(fd:ajx):List Str:=fd.params.args.map (·.arg)
section
variable(K:aeb)(s:vt)(T:Tab)
noncomputable def ej(i:Nat):Nat:=(T.getD i (0,0,λ_ _ _ _=>False)).1
noncomputable def tL(i:Nat):Nat:=(T.getD i (0,0,λ_ _ _ _=>False)).2.1
def tF(i:Nat):Fn:=(T.getD i (0,0,λ_ _ _ _=>False)).2.2
def FR.fd(r:FR):ajx:=p4 K (ej T r.i)
def FR.cx(r:FR):Cx:=s.cx (gV (r.fd K T)++r.rest) (r.fd K T).scope.names (r.fn.map λi=>(ej T i,tF T i)) (r.me.map λp=>(p.1,p.2.map λq=>(q.1,tF T q.2))) (r.cm.map λq=>(q.1,[(q.2.1,tF T q.2.2)])) r.qM
def A4(C:Nat)(n:Str)(a:Nat):Bool:=uU "type.__getattribute__" (akA K (.ref C) "__getattribute__")&&amc K C (.type "type")&&(match ake K (.ref C) (.type "type") n with|some (.val (.ref b))=>LK b a|_=>LB)
def FR.ok(r:FR):Bool:=Ci K (ej T r.i)&&ro K (ej T r.i) (r.fd K T) (gV (r.fd K T))&&VZ 1 (tL T r.i)
 && (w6 (r.fd K T) (gV (r.fd K T))||(r.defs.isEmpty&&Ej (r.fd K T) (gV (r.fd K T))))&&bt u7 (gV (r.fd K T)++r.rest)&&VZ (gV (r.fd K T)).length 6
 && bt (λj=>VE j r.i&&VE (tL T j) (tL T r.i)) r.fn
 && bt (λp=>bt (λq=>VE q.2 r.i&&VE (tL T q.2) (tL T r.i)&&zy K q.1 p.1 (ej T q.2)) p.2) r.me
 && bt (λq=>VE q.2.2 r.i&&VE (tL T q.2.2) (tL T r.i)&&A4 K q.1 q.2.1 (ej T q.2.2)) r.cm
noncomputable def six(a b e f h i:LD)(n:Nat):List LD:=[a,b,e,f,h,i].take n
def FR.My(a b e f h i:LD)(r:FR):=alc (r.fd K T) ⟨six a b e f h i (gV (r.fd K T)).length,[]⟩
def FR.Mx(a b e f h i:LD)(r:FR):Sem (List (Str×LD)):=pure ((gV (r.fd K T)).zip (six a b e f h i (gV (r.fd K T)).length))
def FR.F(r:FR):Fn:=bz (gV (r.fd K T)).length r.defs r.rest.length r.b
end
section
variable{c:GC}{s:vt}{T:Tab}{r:FR}
theorem HA{K:aeb}{a:Nat}(h:Ci K a=W):∃o,fN a K=Y o/\o.data = .func (p4 K a):=by
 unfold Ci at h;unfold p4;cases q:fN a K with
 |none=>rw[q]at h;exact bL h
 |some o =>
  refine⟨o,rfl,?_⟩;rw[q]at h;have h:nB (A6 o.data)=W:=h;show o.data = .func ((A6 o.data).getD default);revert h;cases o.data<;>first|exactλ_=>rfl|exactλh=>bL h
theorem I9{vs:List LD}{n:Nat}(x:vs.length=n)(h:n<=6):∃i j l m p w,vs=six i j l m p w n:=by
 revert vs;refine jk (P:=λn=>∀{vs:List LD},vs.length=n->∃i j l m p w,vs=six i j l m p w n) (jk (jk (jk (jk (jk (jk wz ?_) ?_) ?_) ?_) ?_) ?_) ?_ n (al0 h)<;>intro vs e<;>apply vK e
 .exactλa b c d e f=>⟨a,b,c,d,e,f,rfl⟩
 .exactλa b c d e=>⟨a,b,c,d,e,.none,rfl⟩
 .exactλa b c d=>⟨a,b,c,d,.none,.none,rfl⟩
 .exactλa b c=>⟨a,b,c,.none,.none,.none,rfl⟩
 .exactλa b=>⟨a,b,.none,.none,.none,.none,rfl⟩
 .exactλa=>⟨a,.none,.none,.none,.none,.none,rfl⟩
 .exact⟨.none,.none,.none,.none,.none,.none,rfl⟩
def Tk(c:GC)(T:Tab)(j:Nat):Prop:=lj c (tL T j) (ej T j) (tF T j)
theorem xY{a b:Nat}(h:VE a b=W):a < b:=ajZ (LQ h)
theorem hI{a:Type}{p:a->Bool}{l:List a}(h:bt p l=W):∀x∈l,p x=W:=by rw[mR]at h;exact UA.mp h
theorem NY{N:Nat}{l:List Nat}(h:∀j∈l,Tk c T j/\tL T j<=N):qT c N (l.map λi=>(ej T i,tF T i)):=by
 induction l with
 |nil=>exact .nil
 |cons j l a=>exact .cons ((h j (.head _)).1.le (h j (.head _)).2) (a λj m=>h j (.tail _ m))
theorem adO{l:List (Nat×Nat)}(h:∀q∈l,(Tk c T q.2/\tL T q.2<=N)/\zy c.K q.1 n (ej T q.2)=W):tK c N n (l.map λq=>(q.1,tF T q.2)):=by
 induction l with
 |nil=>exact .nil
 |cons q l a=>exact .cons (h q (.head _)).2 ((h q (.head _)).1.1.le (h q (.head _)).1.2) (a λj m=>h j (.tail _ m))
theorem adT{N:Nat}{l:List (Str×List (Nat×Nat))}(h:∀p∈l,∀q∈p.2,(Tk c T q.2/\tL T q.2<=N)/\zy c.K q.1 p.1 (ej T q.2)=W):qU c N (l.map λp=>(p.1,p.2.map λq=>(q.1,tF T q.2))):=by
 induction l with
 |nil=>exact .nil
 |cons p l a=>exact .cons (adO (h p (.head _))) (a λj m=>h j (.tail _ m))
theorem Eo{K:aeb}{C a:Nat}{n:Str}(h:A4 K C n a=W):akA K (.ref C) "__getattribute__" = Y (Y (.builtin "type.__getattribute__"))/\amc K C (.type "type")=W/\ake K (.ref C) (.type "type") n=Y (.val (.ref a)):=by
 unfold A4 at h;rw[LM,LM]at h;refine⟨wm h.1.1,h.1.2,?_⟩;have h:=h.2;cases q:ake K (.ref C) (.type "type") n with
 |none=>rw[q]at h;exact bL h
 |some w =>
  rw[q]at h;cases w<;>first|exact bL h|(rename_i v;cases v<;>first|exact bL h|(rw[VH h]))
theorem ZZ{N:Nat}:∀{l:List (Nat×Str×Nat)},(∀q∈l,(Tk c T q.2.2/\tL T q.2.2<=N)/\A4 c.K q.1 q.2.1 (ej T q.2.2)=W)->qR c N (l.map λq=>(q.1,[(q.2.1,tF T q.2.2)])):=by
 intro l;induction l with
 |nil=>exactλ_=>.nil
 |cons q l a=>exactλh=>.cons (Eo (h q (.head _)).2).1 (Eo (h q (.head _)).2).2.1 (Eo (h q (.head _)).2).2.2 ((h q (.head _)).1.1.le (h q (.head _)).1.2) (a λj m=>h j (.tail _ m))
theorem QW{b:Type}{v:b}:∀{l:List (Nat×b)},eM a l=Y v->(a,v)∈l:=by
 intro l;induction l with
 |nil =>
  exact@λh=>by exact bR h
 |cons f r e =>
  obtain⟨x,w⟩:=f;exact@λh=>zv h (λe1 e2=>by rw[e1,e2];exact .head _) λh=>.tail _ (e h)
theorem afZ(B:pL c s)(h:r.ok c.K T=W)(hc:comp 60 (r.cx c.K s T) (vD (r.fd c.K T))=Y r.b)(hb:(∀D E G H I L,r.My c.K T D E G H I L=r.Mx c.K T D E G H I L)/\r.defs=[]∨pI c (ej T r.i) (rq (r.fd c.K T) (gV (r.fd c.K T)) r.defs))(S:∀j,j < r.i->Tk c T j):dO c (tL T r.i) (.ref (ej T r.i)) (r.F c.K T)/\dX c (.ref (ej T r.i)):=by
 unfold FR.ok at h;simp only[LM]at h;refine bg h λl h9=>?_;refine bg l λw h8=>?_;refine bg w λx h7=>?_;refine bg x λy h6=>?_;refine bg y λz h5=>?_;refine bg z λA h4=>?_;refine bg A λC Z=>?_;refine bg C λh1 f=>?_;refine aM (HA h1) λo Q M=>?_;have kp:=zm (BI Q M f (defs:=[])).Qq;have hF:pI c (ej T r.i) (rq (r.fd c.K T) (gV (r.fd c.K T)) r.defs):=by
  rcases hb with ⟨hb,e⟩|hb
  .rw[e];have hb:∀a:List LD,a.length=(gV (r.fd c.K T)).length->alc (r.fd c.K T) ⟨a,[]⟩=pure ((gV (r.fd c.K T)).zip a):=λa hv=>by
    obtain⟨D,E,G,H,I,L,e⟩:=I9 hv (LQ h6);rw[e];exact hb D E G H I L
   rw[alq,LM]at h4;rcases h4 with h4|h4
   .exact NX Q M f h4 hb
   .exact aby Q M f h4.2 hb
  .exact hb
 obtain⟨N,X⟩: ∃N,tL T r.i=N+1:=⟨tL T r.i - 1,(akk (LQ Z)).symm⟩;have lt:∀{j},VE (tL T j) (tL T r.i)=W->tL T j<=N:=λh=>ajK (by rw[←Nat.add_one,←X];exact xY h);have hk:Cj (r.fd c.K T).scope.kind=W:=by
  unfold ro at f;simp only[LM]at f;exact f.1.1.1.2
 rw[X];refine⟨Ob (rest:=r.rest) hF (Nb (sc:=(r.fd c.K T).scope) B hk rfl h5 (NY λj m=>?_) (adT λp m q n=>?_) (ZZ λq m=>?_)) rfl rfl rfl hc,kp⟩
 .have:=hI h7 j m;rw[LM]at this;exact⟨S j (xY this.1),lt this.2⟩
 .have:=hI (hI h8 p m) q n;rw[LM,LM]at this;exact⟨⟨S _ (xY this.1.1),lt this.1.2⟩,this.2⟩
 .have:=hI h9 q m;rw[LM,LM]at this;exact⟨⟨S _ (xY this.1.1),lt this.1.2⟩,this.2⟩
end
theorem qr{n a:Nat}{P:Prop}(h1:n+1<=a+1)(b:a<=n+1)(e:a=n+1->P)(k2:a=n->P):P:=(Nat.le_or_eq_of_le_succ b).elim (λh=>k2 (akM h (ada h1))) e
section
variable(K:aeb)(T:Tab)(r:FR)
noncomputable def AO(fd:ajx)(vs:List LD): { k:Option (Array LD)->Sem (List (Str×LD)) // alc fd ⟨vs,[]⟩=seqItems? fd.defaults >>= k}:=⟨_,rfl⟩
noncomputable def Sz:LD->Option Nat
 | .ref a=>Y a
 |_=>LA
def FR.lY:Option (List LD):=(Sz (r.fd K T).defaults).bind λa=>(fN a K).bind Jo
noncomputable def FR.dv:LD:=((r.lY K T).getD []).headD .none
noncomputable def FR.d:O:=r.defs.headD .none
def FR.pn:Nat:=(gV (r.fd K T)).length - 1
def FR.d1:Bool:=pf (r.lY K T) (λl=>LK l.length 1)&&LK r.defs.length 1&&qm K 20 (r.dv K T) r.d&&VZ 1 (gV (r.fd K T)).length&&w6 (r.fd K T) (gV (r.fd K T))
def FR.b1(a b e f h i:LD):=[(AO (r.fd K T) (six a b e f h i (r.pn K T+1))).1 (Y #[r.dv K T]),(AO (r.fd K T) (six a b e f h i (r.pn K T))).1 (Y #[r.dv K T])]
def FR.b2(a b e f h i:LD):List (Sem (List (Str×LD))):=[pure ((gV (r.fd K T)).zip (six a b e f h i (r.pn K T+1))),pure ((gV (r.fd K T)).zip (six a b e f h i (r.pn K T)++[r.dv K T]))]
end
theorem RI{a:Type}{l:List a}{d:a}(h:LK l.length 1=W):l=[l.headD d]:=by
 cases l with
 |nil=>exact bL h
 |cons x l=>cases l with
  |nil=>rfl
  |cons y l=>exact bL h
theorem afQ{v:LD}(h:Sz v=Y a):v = .ref a:=eT (K:=λa=>v = .ref a) (by cases v<;>first|exact trivial|exact rfl) h
theorem abz{c:GC}{T:Tab}{r:FR}(h:r.ok c.K T=W)(b:r.d1 c.K T=W)(hb:∀j l m p w x,r.b1 c.K T j l m p w x=r.b2 c.K T j l m p w x):pI c (ej T r.i) (rq (r.fd c.K T) (gV (r.fd c.K T)) r.defs):=by
 unfold FR.ok at h;refine aY h λh _=>aY h λh _=>aY h λh _=>aY h λh C=>aY h λh _=>aY h λh _=>aY h λh _=>aY h λh1 Q=>?_;refine aY b λb Z=>aY b λb X=>aY b λb hi=>aY b λhv S=>qA hv λdl f z=>bK f λt I f=>bK f λo H A=>(T8 A).elim λn N=>aM (HA h1) λof G E=>?_;have D:dl=[r.dv c.K T]:=by
  have e:=RI (d:=.none) z;unfold FR.dv;rw[show r.lY c.K T=Y dl by unfold FR.lY;rw[I,ajy,H];exact A];exact e
 have M:r.defs=[r.d]:=RI S;have en:(gV (r.fd c.K T)).length=r.pn c.K T+1:=(akk (LQ X)).symm;have C:r.pn c.K T+1<=6:=by rw[←en];exact LQ C
 rw[M];refine NW G E Q Z λs L st B a=>?_;rw[en]at B a;have hs:s.heap.get? t=Y o:=st _ _ (rC H);have y:∀{vs:List LD}{bs:List (Str×LD)},(AO (r.fd c.K T) vs).1 (Y #[r.dv c.K T])=pure bs->BindsTo s (r.fd c.K T) ⟨vs,[]⟩ bs:=λe=>BindsTo.of_defaults (afQ I) hs (by rw[N,D]) (AO _ _).2 e;rw[en];refine qr B a (λe=>?_) λe=>?_
 .obtain⟨j,l,m,p,w,x,e'⟩:=I9 e C;refine⟨[],by rw[e,show r.pn c.K T+1+[r.d].length - (r.pn c.K T+1)=1 from Nat.add_sub_cancel_left ..];exact .nil,?_⟩;rw[VJ,e'];exact y (ajt (hb j l m p w x)).1
 .obtain⟨j,l,m,p,w,x,e'⟩:=I9 e (ak7 C);refine⟨[r.dv c.K T],by rw[e,show r.pn c.K T+[r.d].length - (r.pn c.K T+1)=0 from anD _];exact .cons (Cb hi) .nil,?_⟩;rw[e'];exact y (ajt (ajt (hb j l m p w x)).2).1
end
section
open PySem PySem.W PyProof.Rows
noncomputable abbrev qE:ajI:=PySem.Challenge.pw_nm0165_02
theorem ae3:PySem.Challenge.pw_nm0165_02=qE:=rfl
noncomputable abbrev pw:ajI:=qE
noncomputable def It{a:Type}:List a->Nat->a->a
 | [],_,d=>d
 |x::_,0,_=>x
 |_::l,n+1,d=>It l n d
def bM(i:Nat):ah7:=It pw.main.body i (.Pass ⟨0,0,0,0⟩)
def mem(i j:Nat):ah7:=match bM i with
 | .ClassDef _ _ _ b _ _ _ _ _ _ _=>It b j (.Pass ⟨0,0,0,0⟩)
 |s=>s
noncomputable def fdU(n q:Str)(s:ah7):ajx:=match s with
 | .FunctionDef _ a b _ _ _ sc _ _ _=>{ name:=n,qualname:=q,params:=a,body:=.stmts b,scope:=sc,globals:=0,closure:=[],defaults:=.none,kwdefaults:=.none}
 |_=>default
noncomputable def fdF(n q:Str)(s:ah7)(dv f e:LD):ajx:=match s with
 | .FunctionDef _ a b _ _ _ sc _ _ _=>{ name:=n,qualname:=q,params:=a,body:=.stmts b,scope:=sc,globals:=3,closure:=[],defaults:=dv,kwdefaults:=.none,pyModule:=f,code:=e}
 |_=>default
noncomputable def nl:Nat->BT:=λ_=>.nil
noncomputable def nd(i:Nat)(o:Obj)(l r:Nat->BT):Nat->BT:=λn=>match VE i n with
 |true=>.node o (l n) (r n)
 |false=>.nil
noncomputable def oR:Life:={}
noncomputable def lX:am9:={}
noncomputable def jW(i n:Nat):List ah7:=(pw.main.body.drop i).take n
noncomputable def k(P:WD)(s:Str)(t:Nat)(v:LD):QA:=⟨aaV P s,.str s t,v⟩
def qa:=J 0x5f5f656d616e5f5f
def m3:=J 0x5f5f636f645f5f
def jQ:=J 0x6469
def acf:=J 0x65636e6174736e697369
def acg:=J 0x6e656c
def ach:=J 0x65746172656d756e65
def qj:=J 0x746e69
def aci:=J 0x7473696c
def acj:=J 0x65676e6172
def ack:=J 0x727473
def acm:=J 0x656c707574
def cZ:=J 0x65707974
def acn:=J 0x6e6f69747065637845
def BV:=J 0x6e65706f
def E3:=J 0x5f5f6e69616d5f5f
def E4:=J 0x79702e7475632f6d69616c632f
def uw:=J 0x6c6c61775f
def hS:=J 0x323369
def mj:=J 0x343669
def yL:=J 0x666572636e7566
def ux:=J 0x6665726e7265747865
def OA:=J 0x323366
def yM:=J 0x343666
def v9:=J 0x38323176
def gq:=J 0x636e7566
def E5:=J 0x6e7265747865
def qb:=J 0x656d616e
def hU:=J 0x646e696b
def rG:=J 0x666f5f646e696b
def rH:=J 0x656d616e5f7466656c5f7369
def uy:=J 0x666f5f70616568
def hW:=J 0x656e6f6e
def hX:=J 0x6b636f6c62
def gu:=J 0x6c6562616c
def fO:=J 0x736c6562616c
def ow:=J 0x7463657269646e69
def eB:=J 0x73646e696b
def gQ:=J 0x6c61636f6c
def gv:=J 0x6c61626f6c67
def c5:=J 0x656c626174
def gR:=J 0x79726f6d656d
def E6:=J 0x646e696b666572
def wa:=J 0x74696e695f79726f6d656d
def gw:=J 0x61746164
def yN:=J 0x736569726f6d656d5f6f7774
def wb:=J 0x74696e695f656c626174
def gS:=J 0x6d656c65
def rI:=J 0x79706f635f656c626174
def ml:=J 0x65646f63
def OB:=J 0x74736f6d
def E7:=J 0x736d61726170
def E8:=J 0x73746c75736572
def rJ:=J 0x646e696b5f7265626d756e
def OC:=J 0x7365646f632e65726f636d736177
def rK:=J 0x666f5f6d726f66
def uz:=J 0x6c61727574616e
def iB:=J 0x5f5f656c75646f6d5f5f
def rL:=J 0x73746c7561662e65726f636d736177
def oy:=J 0x5f5f656d616e6c6175715f5f
def mn:=J 0x746c7561466d736157
def iC:=J 0x5f5f6f6e656e696c74737269665f5f
def cQ:=J 0x5f5f74696e695f5f
def iD:=J 0x5f5f736574756269727474615f6369746174735f5f
def cU:=J 0x666c6573
def gT:=J 0x796877
def E9:=J 0x5f5f74696e695f5f2e746c7561466d736157
def jO:=J 0x5f5f6665726b6165775f5f
def rM:=J 0x74786554646142
def dq:=J 0x776f72
def da:=J 0x6e6d756c6f63
def Fb:=J 0x5f5f74696e695f5f2e74786554646142
def rN:=J 0x74754f7466654c
def bX:=J 0x7461
def Fd:=J 0x5f5f74696e695f5f2e74754f7466654c
def rO:=J 0x726578656c2e65726f636d736177
def yO:=J 0x6e656b6f54
def gz:=J 0x74726f73
def cS:=J 0x74786574
def qc:=J 0x65756c6176
def Fe:=J 0x5f5f74696e695f5f2e6e656b6f54
def kT:=J 0x5f5f746369645f5f
def yP:=J 0x68636e617242
def j6:=J 0x64616568
def bZ:=J 0x736d657469
def Ff:=J 0x5f5f74696e695f5f2e68636e617242
def uA:=J 0x7473726966
def Fg:=J 0x646165682e68636e617242
def m6:=J 0x6d657469
def iV:=J 0x68636e6172625f7369
def jP:=J 0x6e656b6f745f7369
def yQ:=J 0x736d657449
def mq:=J 0x656e6f645f7369
def mr:=J 0x65726568
def qd:=J 0x6c696166
def iW:=J 0x656b6174
def yR:=J 0x6e656b6f745f656b6174
def yS:=J 0x68636e6172625f656b6174
def rP:=J 0x64695f656b6174
def yT:=J 0x64726f775f656b6174
def mw:=J 0x74736572
def m7:=J 0x656e6f645f746e6177
def Fh:=J 0x5f5f74696e695f5f2e736d657449
def Fi:=J 0x656e6f645f73692e736d657449
def Fj:=J 0x657265682e736d657449
def Fp:=J 0x68636e6172625f73692e736d657449
def Fq:=J 0x6e656b6f745f73692e736d657449
def cI:=J 0x6e656b6f742064657463657078656e75
def Fs:=J 0x6c6961662e736d657449
def Ft:=J 0x656b61742e736d657449
def Fu:=J 0x6e656b6f745f656b61742e736d657449
def Fv:=J 0x68636e6172625f656b61742e736d657449
def Fw:=J 0x64695f656b61742e736d657449
def Fx:=J 0x64726f775f656b61742e736d657449
def m8:=J 0x646e756f66
def Fy:=J 0x747365722e736d657449
def Fz:=J 0x656e6f645f746e61772e736d657449
def OD:=J 0x68636e617262
def rQ:=J 0x666f5f6b6c6177
def oz:=J 0x65736162
def uB:=J 0x666f5f656c6f6877
def fF:=J 0x6e656b6f74
def uC:=J 0x666f5f746e69
def rR:=J 0x666f5f323375
def FA:=J 0x7a7165
def FC:=J 0x7165
def FD:=J 0x656e
def FE:=J 0x735f746c
def FF:=J 0x755f746c
def FG:=J 0x735f7467
def FH:=J 0x755f7467
def FJ:=J 0x735f656c
def FK:=J 0x755f656c
def FL:=J 0x735f6567
def FN:=J 0x755f6567
def FO:=J 0x7a6c63
def FP:=J 0x7a7463
def FQ:=J 0x746e63706f70
def FT:=J 0x646461
def FU:=J 0x627573
def FV:=J 0x6c756d
def FX:=J 0x735f766964
def FY:=J 0x755f766964
def FZ:=J 0x735f6d6572
def F0:=J 0x755f6d6572
def F1:=J 0x646e61
def F3:=J 0x726f
def F4:=J 0x726f78
def F5:=J 0x6c6873
def F6:=J 0x735f726873
def F7:=J 0x755f726873
def F8:=J 0x6c746f72
def F9:=J 0x72746f72
def BW:=J 0x2e323369
def BX:=J 0x2e343669
def OE:=J 0x7465672e6c61636f6c
def OF:=J 0x74736e6f632e323369
def OG:=J 0x7465732e6c61636f6c
def OH:=J 0x6565742e6c61636f6c
def OI:=J 0x74736e6f632e343669
def uD:=J 0x706f6f6c
def fP:=J 0x6669
def qe:=J 0x65736c65
def gA:=J 0x646e65
def OJ:=J 0x7262
def OK:=J 0x66695f7262
def OL:=J 0x656c6261745f7262
def OM:=J 0x6e7275746572
def uE:=J 0x6c6c6163
def uF:=J 0x7463657269646e695f6c6c6163
def ON:=J 0x706f7264
def jR:=J 0x7463656c6573
def Ga:=J 0x656c626168636165726e75
def rS:=J 0x706f6e
def BY:=J 0x6c6c61635f6e7275746572
def yU:=J 0x7463657269646e695f6c6c61635f6e7275746572
def yV:=J 0x7465672e6c61626f6c67
def yW:=J 0x7465732e6c61626f6c67
def BZ:=J 0x7465672e656c626174
def B0:=J 0x7465732e656c626174
def Gb:=J 0x64616f6c2e323369
def Gd:=J 0x64616f6c2e343669
def Ge:=J 0x735f3864616f6c2e323369
def Gf:=J 0x755f3864616f6c2e323369
def Gg:=J 0x735f363164616f6c2e323369
def Gh:=J 0x755f363164616f6c2e323369
def Gi:=J 0x735f3864616f6c2e343669
def Gj:=J 0x755f3864616f6c2e343669
def Gk:=J 0x735f363164616f6c2e343669
def Gl:=J 0x755f363164616f6c2e343669
def Gm:=J 0x735f323364616f6c2e343669
def Gn:=J 0x755f323364616f6c2e343669
def Gp:=J 0x65726f74732e323369
def Gq:=J 0x65726f74732e343669
def Gs:=J 0x3865726f74732e323369
def Gu:=J 0x363165726f74732e323369
def Gv:=J 0x3865726f74732e343669
def Gw:=J 0x363165726f74732e343669
def Gx:=J 0x323365726f74732e343669
def Gy:=J 0x657a69732e79726f6d656d
def Gz:=J 0x776f72672e79726f6d656d
def GA:=J 0x3436695f706172772e323369
def GB:=J 0x735f3233695f646e657478652e343669
def GD:=J 0x755f3233695f646e657478652e343669
def GF:=J 0x735f38646e657478652e323369
def GG:=J 0x735f3631646e657478652e323369
def GH:=J 0x735f38646e657478652e343669
def GI:=J 0x735f3631646e657478652e343669
def GJ:=J 0x735f3233646e657478652e343669
def GK:=J 0x6c6c756e2e666572
def GL:=J 0x6c6c756e5f73692e666572
def B1:=J 0x636e75662e666572
def B2:=J 0x74696e692e79726f6d656d
def wc:=J 0x706f72642e61746164
def GN:=J 0x79706f632e79726f6d656d
def GO:=J 0x6c6c69662e79726f6d656d
def qf:=J 0x74696e692e656c626174
def yX:=J 0x706f72642e6d656c65
def we:=J 0x79706f632e656c626174
def B3:=J 0x776f72672e656c626174
def yY:=J 0x657a69732e656c626174
def B4:=J 0x6c6c69662e656c626174
def OO:=J 0x786966657270
def GP:=J 0x7364726f77
def rU:=J 0x666f5f65646f63
def GQ:=J 0x73656d616e706f2e65726f636d736177
def hY:=J 0x64726f77
def rV:=J 0x64726f775f7466656c5f7369
def eC:=J 0x6d61726170
def dN:=J 0x746c75736572
def oD:=J 0x6e656874
def GR:=J 0x74657366666f
def OP:=J 0x74756d
def OQ:=J 0x74726f706d69
def OR:=J 0x74726f707865
def OS:=J 0x7472617473
def OT:=J 0x656c75646f6d
def OU:=J 0x6572616c636564
def rW:=J 0x657375666572
def rX:=J 0x79646f62747865742e65726f636d736177
def rY:=J 0x666f5f64616568
def rZ:=J 0x64726f775f726568746f5f7369
def r6:=J 0x646e696b5f65756c6176
def kU:=J 0x6e695f73646e696b
def r7:=J 0x7865646e695f736168
def r8:=J 0x74615f7865646e69
def uG:=J 0x74615f64726f77
def uH:=J 0x666f5f746e756f63
def mx:=J 0x7265626d756e
def uI:=J 0x666f5f746e656e6f707865
def yZ:=J 0x6c6562614c
def GS:=J 0x5f5f74696e695f5f2e6c6562614c
def y0:=J 0x65736c655f736168
def y1:=J 0x6e75526d657449
def qg:=J 0x6465646c6f665f7369
def GU:=J 0x5f5f74696e695f5f2e6e75526d657449
def r9:=J 0x6b7361745f6e7572
def y3:=J 0x72656461655279646f42
def sa:=J 0x64616572
def uJ:=J 0x70657473
def jS:=J 0x6e7572
def m9:=J 0x6b636f6c625f6e65706f
def qh:=J 0x6b636f6c625f65736f6c63
def sh:=J 0x6e69616c70
def uK:=J 0x646e655f6e69616c70
def sj:=J 0x6465646c6f66
def uL:=J 0x66695f6465646c6f66
def ng:=J 0x646c6f745f6c6562616c
def nh:=J 0x646e696b5f6b636f6c62
def lI:=J 0x646c6f745f65707974
def kW:=J 0x6e6f697463757274736e69
def d8:=J 0x7865646e69
def oE:=J 0x72656e6e69
def uM:=J 0x73656c6261745f666f
def qi:=J 0x6772616d656d
def uN:=J 0x746e6174736e6f63
def d9:=J 0x736563617073
def gB:=J 0x7364695f6c61636f6c
def GV:=J 0x5f5f74696e695f5f2e72656461655279646f42
def GW:=J 0x646165722e72656461655279646f42
def OV:=J 0x74756f6261
def GX:=J 0x706574732e72656461655279646f42
def GY:=J 0x6e75722e72656461655279646f42
def GZ:=J 0x6b636f6c625f6e65706f2e72656461655279646f42
def G4:=J 0x6b636f6c625f65736f6c632e72656461655279646f42
def G5:=J 0x6e69616c702e72656461655279646f42
def G6:=J 0x646e655f6e69616c702e72656461655279646f42
def G7:=J 0x6465646c6f662e72656461655279646f42
def G8:=J 0x6563616c70
def wg:=J 0x646e69686562
def OX:=J 0x726574616c
def G9:=J 0x66695f6465646c6f662e72656461655279646f42
def Ha:=J 0x646c6f745f6c6562616c2e72656461655279646f42
def OY:=J 0x736d617261705f736168
def OZ:=J 0x73746c757365725f736168
def Hb:=J 0x646e696b5f6b636f6c622e72656461655279646f42
def iF:=J 0x736469
def Hc:=J 0x646c6f745f657079742e72656461655279646f42
def B5:=J 0x6d726f66
def He:=J 0x6e6f697463757274736e692e72656461655279646f42
def wh:=J 0x6563617073
def Hf:=J 0x7865646e692e72656461655279646f42
def Hg:=J 0x72656e6e692e72656461655279646f42
def Hh:=J 0x6c61636f6c2e72656461655279646f42
def Hi:=J 0x6c6562616c2e72656461655279646f42
def Hj:=J 0x73656c6261745f666f2e72656461655279646f42
def Hk:=J 0x6772616d656d2e72656461655279646f42
def Hl:=J 0x746e6174736e6f632e72656461655279646f42
def O0:=J 0x646c6f745f7369
def Hm:=J 0x7463656c65732e72656461655279646f42
def fQ:=J 0x79646f62
def iX:=J 0x736b736174
def so:=J 0x79646f625f64616572
def O1:=J 0x6e6f6974636e7566
def O2:=J 0x746e656d676573206d656c65
def O3:=J 0x746e656d6765732061746164
def B6:=J 0x7365636170732e65726f636d736177
def sv:=J 0x6e695f65727574616e676973
def y4:=J 0x736563617053
def y5:=J 0x646e6962
def sx:=J 0x7865646e695f646e696b
def uO:=J 0x6573755f65707974
def y6:=J 0x796e616d5f736d61726170
def Hn:=J 0x5f5f74696e695f5f2e736563617053
def Ho:=J 0x646e69622e736563617053
def Hp:=J 0x7865646e692e736563617053
def B7:=J 0x726568746f
def Hq:=J 0x7865646e695f646e696b2e736563617053
def O4:=J 0x6b6c6177
def wi:=J 0x646c6f74
def Hr:=J 0x6573755f657079742e736563617053
def Ht:=J 0x796e616d5f736d617261702e736563617053
def oF:=J 0x796e616d
def O5:=J 0x6e6570
def sy:=J 0x7478656e5f77616c5f
def O6:=J 0x32305f353631306d6e5f77616c
def nq:=J 0x7374786574
def sA:=J 0x746e756f63
def sD:=J 0x736d6574695f77616c5f
def sF:=J 0x73646e696b5f77616c5f
def sG:=J 0x7265626d756e5f77616c5f
def sH:=J 0x6573755f77616c5f
def Hu:=J 0x78
def B8:=J 0x72657474656c
def sI:=J 0x64656d616e5f77616c5f
def Hv:=J 0x6461656861
def y7:=J 0x73776f72
def O7:=J 0x656372756f73
def sJ:=J 0x656e6f5f77616c5f
def O8:=J 0x7461657267
def sL:=J 0x676e6f72775f77616c5f
def uP:=J 0x77616c
def O9:=J 0x5954504d45
def Pa:=J 0x53454d414e5f444e494b
def Pb:=J 0x53454d414e5f5446454c
def Pc:=J 0x4649
def Pd:=J 0x45534c45
def Pe:=J 0x444e45
def Pf:=J 0x5443454c4553
def Pg:=J 0x53444e494b5f5443454c4553
def Ph:=J 0x5344414f4c
def Pj:=J 0x5345524f5453
def Pk:=J 0x534d524f46
def Pl:=J 0x39383736353433323130
def Pm:=J 0x726578656c5f68636e6172625f7369
def Pn:=J 0x726578656c5f6e656b6f745f7369
def Po:=J 0x53574f52
def Pp:=J 0x53454d414e
def Pr:=J 0x5344524f575f4b434f4c42
def Pt:=J 0x5344524f575f524548544f
def Pu:=J 0x4d524f465f464f5f4543415053
def Pw:=J 0x79646f62747865745f6e695f73646e696b
def Px:=J 0x534543415053
def Py:=J 0x53454d414e5f4543415053
def Pz:=J 0x7365636170735f6e695f73646e696b
def Od(P:WD):List QA:=[k P m3 166 .none,k P (J 0x5f5f6567616b6361705f5f) 167 .none,k P (J 0x5f5f726564616f6c5f5f) 168 (.builtin "__main__.__loader__#opaque"),k P (J 0x5f5f636570735f5f) 169 .none,k P (J 0x5f5f736e6f697461746f6e6e615f5f) 170 (.ref 6),k P (J 0x5f5f736e69746c6975625f5f) 171 (.ref 4),k P (J 0x5f5f656c69665f5f) 173 (.str E4 172),k P (J 0x5f5f6465686361635f5f) 174 .none,k P uw 193 (.ref 21),k P (J 0x323349) 198 (.int (-1) 197),k P (J 0x343649) 201 (.int (-2) 200),k P (J 0x464552434e5546) 204 (.int (-16) 203),k P (J 0x4645524e5245545845) 207 (.int (-17) 206),k P O9 210 (.int (-64) 209),k P Pa 219 (.ref 22),k P Pb 232 (.ref 23),k P (J 0x53454d414e5f50414548) 237 (.ref 24),k P rG 245 (.ref 31),k P rH 252 (.ref 38),k P uy 260 (.ref 45),k P (J 0x454c424148434145524e55) 264 (.int 0 263),k P (J 0x504f4e) 266 (.int 1 265),k P (J 0x4b434f4c42) 268 (.int 2 267),k P (J 0x504f4f4c) 270 (.int 3 269),k P Pc 272 (.int 4 271),k P Pd 274 (.int 5 273),k P Pe 276 (.int 11 275),k P (J 0x5242) 278 (.int 12 277),k P (J 0x46495f5242) 280 (.int 13 279),k P (J 0x454c4241545f5242) 282 (.int 14 281),k P (J 0x4e5255544552) 284 (.int 15 283),k P (J 0x4c4c4143) 286 (.int 16 285),k P (J 0x5443455249444e495f4c4c4143) 288 (.int 17 287),k P (J 0x4c4c41435f4e5255544552) 290 (.int 18 289),k P (J 0x5443455249444e495f4c4c41435f4e5255544552) 292 (.int 19 291),k P (J 0x504f5244) 294 (.int 26 293),k P Pf 296 (.int 27 295),k P Pg 298 (.int 28 297),k P (J 0x5445475f4c41434f4c) 300 (.int 32 299),k P (J 0x5445535f4c41434f4c) 302 (.int 33 301),k P (J 0x4545545f4c41434f4c) 304 (.int 34 303),k P (J 0x5445475f4c41424f4c47) 306 (.int 35 305),k P (J 0x5445535f4c41424f4c47) 308 (.int 36 307),k P (J 0x5445475f454c424154) 310 (.int 37 309),k P (J 0x5445535f454c424154) 312 (.int 38 311),k P (J 0x455a49535f59524f4d454d) 314 (.int 63 313),k P (J 0x574f52475f59524f4d454d) 316 (.int 64 315),k P (J 0x54534e4f435f323349) 318 (.int 65 317),k P (J 0x54534e4f435f343649) 320 (.int 66 319),k P (J 0x4c4c554e5f464552) 322 (.int 208 321),k P (J 0x4c4c554e5f53495f464552) 324 (.int 209 323),k P (J 0x434e55465f464552) 326 (.int 210 325),k P (J 0x54494e495f59524f4d454d) 328 (.int 64520 327),k P (J 0x504f52445f41544144) 330 (.int 64521 329),k P (J 0x59504f435f59524f4d454d) 332 (.int 64522 331),k P (J 0x4c4c49465f59524f4d454d) 334 (.int 64523 333),k P (J 0x54494e495f454c424154) 336 (.int 64524 335),k P (J 0x504f52445f4d454c45) 338 (.int 64525 337),k P (J 0x59504f435f454c424154) 340 (.int 64526 339),k P (J 0x574f52475f454c424154) 342 (.int 64527 341),k P (J 0x455a49535f454c424154) 344 (.int 64528 343),k P (J 0x4c4c49465f454c424154) 346 (.int 64529 345),k P Ph 395 (.ref 46),k P Pj 417 (.ref 59),k P Pk 502 (.ref 67),k P (J 0x535245424d554e) 527 (.ref 106),k P rJ 538 (.ref 113),k P rK 545 (.ref 120),k P uz 553 (.ref 127),k P mn 584 (.ref 144),k P rM 612 (.ref 164),k P rN 638 (.ref 183),k P (J 0x535449474944) 642 (.str Pl 641),k P (J 0x5354494749445f584548) 644 (.str (J 0x46454443424166656463626139383736353433323130) 643),k P yO 681 (.ref 202),k P yP 722 (.ref 230),k P iV 730 (.ref 242),k P Pm 731 (.ref 242),k P jP 740 (.ref 250),k P Pn 741 (.ref 250),k P yQ 869 (.ref 355),k P rQ 876 (.ref 366),k P uB 888 (.ref 373),k P uC 898 (.ref 380),k P rR 905 (.ref 387),k P (J 0x5354534554) 919 (.ref 388),k P (J 0x534d5553) 938 (.ref 389),k P Po 947 (.ref 394),k P Pp 1155 (.ref 395),k P rU 1166 (.ref 406),k P rV 1173 (.ref 413),k P (J 0x544e554f435f54534f4d) 1177 (.int 4294967295 1176),k P Pr 1181 (.ref 414),k P Pt 1208 (.ref 415),k P Pu 1224 (.ref 416),k P rW 1232 (.ref 423),k P rY 1239 (.ref 430),k P rZ 1246 (.ref 437),k P r6 1254 (.ref 444),k P kU 1260 (.ref 713),k P Pw 1261 (.ref 449),k P r7 1269 (.ref 456),k P r8 1278 (.ref 463),k P uG 1286 (.ref 470),k P uH 1295 (.ref 477),k P uI 1304 (.ref 484),k P yZ 1338 (.ref 501),k P y1 1372 (.ref 522),k P r9 1381 (.ref 533),k P y3 1648 (.ref 695),k P so 1657 (.ref 706),k P Px 1667 (.ref 707),k P Py 1689 (.ref 708),k P Pz 1696 (.ref 713),k P sv 1702 (.ref 718),k P y4 1786 (.ref 770),k P sy 1796 (.ref 781),k P sD 1807 (.ref 788),k P sF 1813 (.ref 795),k P sG 1821 (.ref 802),k P sH 1827 (.ref 807),k P sI 1836 (.ref 814),k P sJ 1859 (.ref 821),k P sL 1868 (.ref 828),k P uP 1874 (.ref 833)]
noncomputable def ag6:List LD:=[.int 1 0,.int 0 0,.ref 20,.int 13 0,.int 0 0,.ref 30,.int 18 0,.int 0 0,.ref 37,.int 20 0,.int 0 0,.ref 44,.int 72 0,.int 0 0,.ref 112,.int 77 0,.int 0 0,.ref 119,.int 83 0,.int 0 0,.ref 126,.int 87 0,.int 0 0,.ref 133,.int 92 0,.int 0 0,.ref 153,.int 98 0,.int 0 0,.ref 172,.int 106 0,.int 0 0,.ref 191,.int 114 0,.int 0 0,.ref 212,.int 124 0,.int 0 0,.ref 241,.int 127 0,.int 0 0,.ref 249,.int 130 0,.int 0 0,.ref 256,.int 182 0,.int 0 0,.ref 365,.int 184 0,.int 0 0,.ref 372,.int 197 0,.int 0 0,.ref 379,.int 205 0,.int 0 0,.ref 386,.int 216 0,.int 0 0,.ref 405,.int 224 0,.int 0 0,.ref 412,.int 233 0,.int 0 0,.ref 422,.int 237 0,.int 0 0,.ref 429,.int 239 0,.int 0 0,.ref 436,.int 241 0,.int 0 0,.ref 443,.int 250 0,.int 0 0,.ref 448,.int 253 0,.int 0 0,.ref 455,.int 255 0,.int 0 0,.ref 462,.int 259 0,.int 0 0,.ref 469,.int 263 0,.int 0 0,.ref 476,.int 270 0,.int 0 0,.ref 483,.int 277 0,.int 0 0,.ref 490,.int 284 0,.int 0 0,.ref 511,.int 291 0,.int 0 0,.ref 532,.int 293 0,.int 0 0,.ref 539,.int 548 0,.int 0 0,.ref 705,.int 553 0,.int 0 0,.ref 712,.int 566 0,.int 0 0,.ref 717,.int 573 0,.int 0 0,.ref 724,.int 628 0,.int 0 0,.ref 780,.int 634 0,.int 0 0,.ref 787,.int 646 0,.int 0 0,.ref 794,.int 648 0,.int 0 0,.ref 801,.int 652 0,.int 0 0,.ref 806,.int 665 0,.int 0 0,.ref 813,.int 668 0,.int 0 0,.ref 820,.int 705 0,.int 0 0,.ref 827,.int 730 0,.int 0 0,.ref 832]
noncomputable def mX:Env:={scope:=pw.main.scope,locals:=mainNs,globals:=mainNs,cells:=[],code:=.ref 13,frame:=Y 14}
def cE:Code:=.body (amv pw) mX
noncomputable def Uj(l:List QA):List (Nat×QA)->List QA
 | []=>l
 |(j,e)::r=>Uj (l.set j e) r
def p6(P:WD)(a:QA)(m b:Nat)(e:List (Nat×QA)):Obj:=⟨.type "dict",LA,.dict ⟨a::Uj ((Od P).take m) e⟩ b,#[]⟩
noncomputable def tabObj(m:Nat):Obj:=⟨.none,LA,.fields ⟨ag6.take m⟩,#[]⟩
def x2(P:WD)(a:Nat):Obj:=cond (VZ a 1) ⟨.none,LA,.dict ⟨[]⟩ 0,#[]⟩ ⟨.none,LA,.dict ⟨[k P (J 0x302e6e6f697470656378452e5f5f73657373616c636275735f5f2e65707974) 581 (.int 144 0),k P (J 0x6e2e6e6f697470656378452e5f5f73657373616c636275735f5f2e65707974) 582 (.int 1 0)]⟩ 2,#[]⟩
def ahU(P:WD)(a:Nat):Obj:=cond (VZ a 2) ⟨.type "type",LA,.cls ⟨mn,[.type "Exception"],[.ref 144,.type "Exception",.type "BaseException",.type "object"],143,mn,W,[],[],LB,LA,LB⟩,⟨[Y (.ref 128),LA,Y (.str mn 556),Y (.str mn 564),Y (.builtin "Exception.__new__"),Y (.bool W)]⟩⟩ ⟨.type "type",LA,.cls ⟨mn,[.type "Exception"],[.ref 144,.type "Exception",.type "BaseException",.type "object"],143,mn,W,[],[.ref 164,.ref 183],LB,LA,LB⟩,⟨[Y (.ref 128),LA,Y (.str mn 556),Y (.str mn 564),Y (.builtin "Exception.__new__"),Y (.bool W)]⟩⟩
def x3(P:WD)(a:Nat):Obj:=cond (VZ a 0) (p6 P (k P qa 165 (.str E3 164)) 8 9 []) (cond (VZ a 1) (p6 P (k P qa 165 (.str OC 261)) 64 65 []) (cond (VZ a 2) (p6 P (k P qa 165 (.str rL 554)) 70 71 []) (cond (VZ a 3) (p6 P (k P qa 165 (.str rO 639)) 80 81 []) (cond (VZ a 4) (p6 P (k P qa 165 (.str GQ 906)) 88 89 []) (cond (VZ a 5) (p6 P (k P qa 165 (.str GQ 906)) 90 91 []) (cond (VZ a 6) (p6 P (k P qa 165 (.str rX 1174)) 109 110 [(99,k P kU 1260 (.ref 449))]) (cond (VZ a 7) (p6 P (k P qa 165 (.str B6 1658)) 115 116 []) (p6 P (k P qa 165 (.str O6 1787)) 125 126 []))))))))
def x12(a:Nat):Obj:=cond (VZ a 0) (tabObj 0) (cond (VZ a 1) (tabObj 12) (cond (VZ a 2) (tabObj 24) (cond (VZ a 3) (tabObj 42) (cond (VZ a 4) (tabObj 57) (cond (VZ a 5) (tabObj 60) (cond (VZ a 6) (tabObj 102) (cond (VZ a 7) (tabObj 114) (tabObj 144))))))))
noncomputable def us(s:Str)(t:Nat):LD:=.str s t
noncomputable def rf(a:Nat):LD:=.ref a
noncomputable def ni(i:Int)(t:Nat):LD:=.int i t
noncomputable def hq(o:Obj)(_:Nat):Obj:=o
noncomputable def mh(t:String)(l:List LD):Obj:=⟨.type t,LA,.fields ⟨l⟩,#[]⟩
def EY(a b:Str)(t:Nat)(l n g:Int)(r:Nat)(e:Bool)(w x y:LD)(u:Nat):Obj:=mh "code" [us a t,us b (t+1),us E4 (t+2),ni l 0,ni n 0,ni 0 0,ni 0 0,ni g 0,rf r,.bool e,ni 181 0,rf (r+1),.none,w,x,y,ni u 0,ni l 0,us E4 (u+1)]
def bG(a b:Str)(t:Nat)(l n g:Int)(d i:Nat):Obj:=EY a b t l n g (i - 5) W (rf (i - 3)) (rf (i - 2)) (rf (i - 1)) (t+d)
def iz(a:Str)(t:Nat)(l:Int)(i:Nat):Obj:=EY a a t l 0 0 (i - 2) LB .none .none .none (t+3)
def rD(a b:Str)(t:Nat)(l n g:Int)(i:Nat):Obj:=EY a b t l n g (i - 3) W .none .none (rf (i - 1)) (t+3)
noncomputable def bU(l:List LD)(_:Nat):Obj:=⟨.type "tuple",LA,.seq ⟨l⟩ 0,#[]⟩
def aA:Nat->Obj:=bU []
def Uo:Nat->List Str->List LD
 |_,[]=>[]
 |t,s::l=>us s t::Uo (t+1) l
def bu(t:Nat)(l:List Str):Nat->Obj:=bU (Uo t l)
def bB(n q:Str)(s:ah7)(_:Nat):Obj:=⟨.none,LA,.func (fdU n q s),#[]⟩
def uu(n q:Str)(s:ah7)(d f:LD)(i:Nat):Obj:=⟨.type "function",LA,.func (fdF n q s d f (rf (i - 1))),#[]⟩
def bH(n q:Str)(s:ah7)(f:LD):Nat->Obj:=uu n q s .none f
noncomputable def Oy(l:List LD):Obj:=⟨.none,LA,.fields ⟨l⟩,#[]⟩
def bA(_:Nat):Obj:=Oy []
def jB(l:List (Int×Nat))(i:Nat):Obj:=Oy (l.flatMap λe=>[ni e.1 0,ni 4 0,rf (i+e.2)])
noncomputable def v7(n:Nat)(l:List QA)(_:Nat):Obj:=⟨.type "dict",LA,.dict ⟨l⟩ n,#[]⟩
def gP(P:WD)(n:Nat)(l:List (Str×Nat×LD)):Nat->Obj:=v7 n (l.map λe=>k P e.1 e.2.1 e.2.2)
def rE(n:Nat)(l:List (Int×Nat×Str×Nat)):Nat->Obj:=v7 n (l.map λe=>⟨e.1,ni e.1 e.2.1,us e.2.2.1 e.2.2.2⟩)
def Ow:Nat->List (Int×Nat)->List QA
 |_,[]=>[]
 |i,e::l=>⟨e.1,ni e.1 e.2,rf (i+1)⟩::Ow (i+1) l
def BU(n:Nat)(l:List (Int×Nat))(i:Nat):Obj:=v7 n (Ow i l) i
def fy(f:LD)(i:Nat):Obj:=⟨.type "frame",LA,.plain,⟨[Y (rf (i - 1)),Y (rf 3),Y (rf (i - 4)),LA,Y f,LA,Y (rf 0)]⟩⟩
def lH(_:Nat):Obj:=mh "builtin_function_or_method" [.builtin "type.__prepare__",.type "type"]
def fW(k i:Nat):Obj:=mh "builtin_function_or_method" [.builtin "object.__init_subclass__",rf (i - k)]
def oG(k i:Nat):Obj:=mh "super" [rf (i - k),rf (i - k),rf (i - k)]
def uv(s:Str)(t i:Nat):Obj:=mh "getset_descriptor" [us s t,rf (i - 1),.builtin "function.__dict__",.builtin "function.__dict__#set"]
def rF(s:Str)(t k i:Nat):Obj:=mh "getset_descriptor" [us s t,rf (i - k),.builtin "ExceptionGroup.__weakref__",.none]
def jM(s:Str)(t i:Nat):Obj:=⟨.type "type",LA,.cls ⟨s,[.type "object"],[rf i,.type "object"],i - 1,s,W,[],[],LB,LA,LB⟩,⟨[LA,LA,Y (us s t),Y (us s (t+8)),Y (.builtin "object.__new__"),Y (.bool W)]⟩⟩
def D6(N:Nat):Nat->Nat->Nat->List (Nat->Obj)->((Nat->BT)->List (Nat->Obj)->Nat->BT)->Nat->BT
 |0,_,_,l,k=>k nl l
 |f+1,i,s,l,k=>match VE i N with
  |false=>k nl l
  |true=>match l with
   | []=>k nl []
   |o::l=>D6 N f (i+s) (2 * s) l λa l=>D6 N f (i+2 * s) (2 * s) l λb l=>k (nd i (o i) a b) l
def hm0:LD:=.str E3 164
def E1:LD:=.str (J 0x73646e696b2e65726f636d736177) 194
def kS:LD:=.str OC 261
def v8:LD:=.str rL 554
def gm:LD:=.str rO 639
def Oz:LD:=.str GQ 906
def dC:LD:=.str rX 1174
def p8:LD:=.str B6 1658
def p9:LD:=.str O6 1787
def TR(P:WD)(k:Nat):Nat->BT:=D6 834 12 0 1 [hq (boot_o_0 P),hq (boot_o_1 P),hq (x3 P k),hq (boot_o_7 P),aA,bH rG rG (bM 10) E1,bU [ni (-1) 197,ni 2 403],bH uz uz (bM 62) kS,jB [(132,8),(138,15),(141,22),(144,30),(147,38),(150,46),(156,53),(162,60),(165,68),(168,75),(171,82),(174,89),(179,96)],iz y1 1341 284,bH y6 Ht (mem 115 5) p8,bu 902 [fF],aA,iz yO 647 106,bA,bH m9 GZ (mem 107 4) dC,bB uP uP (bM 125),bB kU kU (bM 97),aA,bU [ni (-1) 197],bB cQ Fb (mem 65 0),bU [.none],bu 1397 [cU,d9,gB],aA,bu 1182 [cZ,eC,dN,gQ,oD,qe,gA,m6,GR,OP,gq,E5,c5,gR,gv,gS,gw,OQ,OR,OS,OT,OU,hS,mj,yL,ux],bH uM Hj (mem 107 18) dC,bu 707 [cU,uA],bG m7 Fz 851 179 1 3 4,aA,bA,bu 1726 [cU,wh,fF,mx],bU [ni (-1) 197,ni 4 348,ni 0 349],bU [ni (-2) 200,ni (-2) 200],gP P 3 [(iB,563,us rL 554),(iC,567,ni 87 566),(cQ,575,rf 141),(iD,577,rf 142),(jO,579,rf 145),(m3,580,.none)],bH mq Fi (mem 76 1) gm,aA,bA,rE 1 [(64529,1152,B4,1153)],bu 1580 [cU,fF],aA,aA,bA,bH r8 r8 (bM 100) dC,aA,bB rJ rJ (bM 60),bA,aA,bB uJ GX (mem 107 2),aA,aA,bA,aA,aA,bG nh Hb 1511 419 3 3 11,aA,bB sx Hq (mem 115 3),v7 3 [⟨(-3),ni (-3) 221,us OA 222⟩,⟨(-4),ni (-4) 224,us yM 225⟩,⟨(-5),ni (-5) 227,us v9 228⟩],aA,bU [ni (-1) 197],aA,bG cQ Fh 754 132 4 3 7,bH cQ GU (mem 105 0) dC,aA,bU [ni 80 941,us BX 942,rf 388],bA,bH cQ Fe (mem 70 0) gm,bu 831 [cU],aA,bG r7 r7 1262 253 2 3 5,bB kU kU (bM 112),bU [ni (-2) 200],bU [rf 144],bu 795 [cI],aA,bH sH sH (bM 121) p9,bH rW rW (bM 93) dC,aA,uv kT 716,fW 4,bB ng Ha (mem 107 10),gP P 5 [(iB,1312,us rX 1174),(oy,1314,us yZ 1313),(iC,1316,ni 277 1315),(cQ,1326,rf 498),(iD,1331,rf 499)],aA,bU [ni (-2) 200,ni 2 372,ni 1 373],bU [ni 106 513,ni 120 514,rf 85,rf 86],aA,bU [.none],lH,aA,aA,aA,bA,bB mw Fy (mem 76 11),bu 1474 [cU,OD,hY,fF,bZ,gu,bX,hU,kW],aA,bA,bG rK rK 539 77 1 3 4,hq ⟨.type "type",LA,.cls ⟨rN,[.ref 144],[.ref 183,.ref 144,.type "Exception",.type "BaseException",.type "object"],182,rN,W,[],[],LB,LA,LB⟩,⟨[Y (.ref 167),LA,Y (.str rN 613),Y (.str rN 621),Y (.builtin "Exception.__new__"),Y (.bool W)]⟩⟩,bA,bG jS GY 1421 320 2 3 6,bA,bA,jM y3 1382,aA,bA,bH lI Hc (mem 107 12) dC,rF jO 1334 2,bG uO Hr 1752 607 3 3 13,aA,bB uw uw (bM 0),aA,rE 42 [(0,263,hW,418),(1,265,hW,420),(2,267,hX,422),(3,269,hX,424),(4,271,hX,426),(5,273,hW,428),(11,275,hW,430),(12,277,gu,432),(13,279,gu,434),(14,281,fO,436),(15,283,hW,438),(16,285,gq,440),(17,287,ow,442),(18,289,gq,444),(19,291,ow,446),(26,293,hW,448),(27,295,hW,450),(28,297,eB,452),(32,299,gQ,454),(33,301,gQ,456),(34,303,gQ,458),(35,305,gv,460),(36,307,gv,462),(37,309,c5,464),(38,311,c5,466),(63,313,gR,468),(64,315,gR,470),(65,317,hS,472),(66,319,mj,474),(208,321,E6,476),(209,323,hW,478),(210,325,gq,480),(64520,327,wa,482),(64521,329,gw,484),(64522,331,yN,486),(64523,333,gR,487),(64524,335,wb,488),(64525,337,gS,489),(64526,339,rI,490),(64527,341,c5,491),(64528,343,c5,492),(64529,345,c5,493)],aA,bA,bu 1354 [cU,bZ,bX,qg],uv kT 1780,bH rR rR (bM 80) gm,bB d8 Hf (mem 107 14),bu 660 [cU,gz,cS,qc,dq,da],bG yS Fv 820 165 2 3 5,aA,bA,bu 1660 [cZ,gq,c5,gR,gv,gS,gw],bU [ni 172 521,ni 173 522,rf 97,rf 98],gP P 2 [(iB,592,us rL 554),(iC,596,ni 92 595),(cQ,606,rf 161),(iD,609,rf 162),(m3,610,.none)],aA,bH cQ GV (mem 107 0) dC,aA,bu 1228 [gT,m6],aA,bH j6 Fg (mem 71 1) gm,jM yQ 742,aA,bG uI uI 1296 270 2 3 6,bH y5 Ho (mem 115 1) p8,bU [ni (-1) 197,ni 2 360,ni 1 361],bU [ni (-1) 197],fW 3,aA,bB r9 r9 (bM 106),bG sD sD 1797 634 2 3 8,aA,bH gQ Hh (mem 107 16) dC,jB [(116,8),(121,15)],aA,bG uK G6 1460 358 4 3 8,aA,jB [(575,8),(583,15),(592,22),(599,29),(607,36),(625,43)],bA,bG cQ Fd 625 100 3 3 6,bB iW Ft (mem 76 6),bA,bB sJ sJ (bM 123),bB rZ rZ (bM 95),bG jR Hm 1625 539 3 3 8,bU [.none],bB uB uB (bM 78),bu 1528 [cU,bZ,bX,d8,iF,wg],bu 1327 [y0,qb,fF,hY],bA,bu 241 [qb,hU],bB uy uy (bM 12),bU [ni 70 505,ni 79 506,rf 73,rf 74],bB cQ E9 (mem 64 0),bu 767 [cU],uv kT 1366,bB sy sy (bM 117),rE 69 [(32,948,OE,949),(65,951,OF,952),(33,954,OG,955),(34,957,OH,958),(66,960,OI,961),(2,963,hX,964),(3,966,uD,967),(4,969,fP,970),(5,972,qe,973),(11,975,gA,976),(12,978,OJ,979),(13,981,OK,982),(14,984,OL,985),(15,987,OM,988),(16,990,uE,991),(17,993,uF,994),(26,996,ON,997),(27,999,jR,1000),(28,1002,jR,1003),(0,1005,Ga,1006),(1,1008,rS,1009),(18,1011,BY,1012),(19,1014,yU,1015),(35,1017,yV,1018),(36,1020,yW,1021),(37,1023,BZ,1024),(38,1026,B0,1027),(40,1029,Gb,1030),(41,1032,Gd,1033),(44,1035,Ge,1036),(45,1038,Gf,1039),(46,1041,Gg,1042),(47,1044,Gh,1045),(48,1047,Gi,1048),(49,1050,Gj,1051),(50,1053,Gk,1054),(51,1056,Gl,1057),(52,1059,Gm,1060),(53,1062,Gn,1063),(54,1065,Gp,1066),(55,1068,Gq,1069),(58,1071,Gs,1072),(59,1074,Gu,1075),(60,1077,Gv,1078),(61,1080,Gw,1081),(62,1083,Gx,1084),(63,1086,Gy,1087),(64,1089,Gz,1090),(167,1092,GA,1093),(172,1095,GB,1096),(173,1098,GD,1099),(192,1101,GF,1102),(193,1104,GG,1105),(194,1107,GH,1108),(195,1110,GI,1111),(196,1113,GJ,1114),(208,1116,GK,1117),(209,1119,GL,1120),(210,1122,B1,1123),(64520,1125,B2,1126),(64521,1128,wc,1129),(64522,1131,GN,1132),(64523,1134,GO,1135),(64524,1137,qf,1138),(64525,1140,yX,1141),(64526,1143,we,1144),(64527,1146,B3,1147),(64528,1149,yY,1150),(64529,1152,B4,1153)],bG oE Hg 1561 468 6 3 13,uv kT 675,bH rP Fw (mem 76 9) gm,bB sh G5 (mem 107 6),bu 1273 [bZ,bX,fF],bA,aA,jB [(100,8)],aA,aA,aA,aA,bB uN Hl (mem 107 20),bU [.none],aA,bA,fy dC,aA,BU 7 [(54,396),(55,398),(58,400),(59,402),(60,404),(61,406),(62,408)],bU [ni (-2) 200,ni (-2) 200],aA,aA,iz y3 1384 293,bH sF sF (bM 119) p9,bB rV rV (bM 87),aA,bG cQ Ff 694 116 4 3 7,bA,bH sj G7 (mem 107 8) dC,bB uH uH (bM 102),bG cQ Hn 1715 575 1 3 5,bu 549 [ml,J 0x73746574636f],lH,bG yR Fu 812 162 2 3 5,bu 1433 [cU,kW,gu],bG sL sL 1860 705 0 3 6,bG r6 r6 1247 241 1 3 5,fW 4,aA,bG uC uC 889 197 2 3 7,aA,lH,bu 1771 [cU,mx],hq (boot_o_5 P),hq (boot_o_9 P),bu 190 [J 0x6b],bA,bU [ni (-2) 200,ni 2 407],lH,fy gm,aA,gP P 4 [(iB,1710,us B6 1658),(iC,1714,ni 573 1713),(cQ,1722,rf 732),(y5,1732,rf 739),(d8,1741,rf 746),(sx,1751,rf 753),(uO,1767,rf 760),(y6,1775,rf 767),(iD,1779,rf 768),(kT,1781,rf 771),(jO,1783,rf 772),(m3,1784,.none)],bB rR rR (bM 80),bu 1553 [cU,wh,fF,bZ,bX],aA,aA,bA,bH uP uP (bM 125) p9,bH kU kU (bM 97) dC,bG so so 1649 548 3 3 6,bU [ni (-1) 197],bH cQ Fb (mem 65 0) v8,bA,bB cQ GV (mem 107 0),bG sG sG 1814 648 2 3 5,aA,bA,bB j6 Fg (mem 71 1),bu 858 [bX,da,bZ,dq],bG uL G9 1486 393 3 3 12,aA,bB y5 Ho (mem 115 1),bU [ni (-1) 197,ni 1 354,ni 1 355],bU [ni 81 509,ni 90 510,rf 79,rf 80],rF jO 578 1,bA,bu 1376 [bZ,bX,qg],aA,bA,bB gQ Hh (mem 107 16),gP P 6 [(iB,689,us rO 639),(oy,691,us yP 690),(iC,693,ni 114 692),(cQ,703,rf 220),(j6,711,rf 227),(iD,715,rf 228)],bG yT Fx 835 171 2 3 5,aA,bA,gP P 10 [(iB,1710,us B6 1658),(oy,1712,us y4 1711),(iC,1714,ni 573 1713),(cQ,1722,rf 732),(y5,1732,rf 739),(d8,1741,rf 746),(sx,1751,rf 753),(uO,1767,rf 760),(y6,1775,rf 767),(iD,1779,rf 768)],bH rJ rJ (bM 60) kS,aA,bu 808 [cU],bH uJ GX (mem 107 2) dC,bu 1840 [Hu,eB,J 0x64656d616e,gz,nq,wi,Hv,c5,cS,hY,ml,y7,B8,mx,B7,O7,gS],bu 1243 [cS],aA,bG iV iV 723 124 2 3 5,bu 880 [cS,oz,J 0x737469676964,m8,J 0x74696769645f736177,J 0x6e676973],aA,bG cQ GS 1317 279 4 3 7,bH sx Hq (mem 115 3) p8,aA,bu 256 [qb,hU],bU [ni (-1) 197,ni (-1) 197],bu 571 [cU,gT],aA,gP P 4 [(iB,1346,us rX 1174),(iC,1350,ni 284 1349),(cQ,1360,rf 519),(iD,1365,rf 520),(kT,1367,rf 523),(jO,1369,rf 524),(m3,1370,.none)],bu 1792 [O5,bX],bU [ni 121 945,us BX 946,rf 389],aA,gP P 4 [(iB,652,us rO 639),(iC,656,ni 106 655),(cQ,668,rf 199),(iD,674,rf 200),(kT,676,rf 203),(jO,678,rf 204),(m3,679,.none)],bB rP Fw (mem 76 9),bu 1449 [cU,jS,fF,bZ,bX,gu,hU,kW],aA,bH kU kU (bM 112) p8,bU [ni 194 525,ni 196 526,rf 103,rf 104],gP P 5 [(iB,620,us rL 554),(oy,622,us rN 621),(iC,624,ni 98 623),(cQ,633,rf 180),(iD,635,rf 181)],bA,bG sa GW 1403 302 2 3 5,bA,bA,bu 1615 [cU,ml,B5,fF,bZ,bX,hU],oG 3,bA,bH ng Ha (mem 107 10) dC,jB [(279,8)],bG d8 Hp 1733 592 3 3 6,bU [ni (-2) 200,ni 4 378,ni 1 379],bU [ni (-2) 200],iz rM 587 92,bA,aA,bB sF sF (bM 119),bu 1170 [hY],bG gu Hi 1585 492 2 3 6,aA,bH mw Fy (mem 76 11) gm,bB sj G7 (mem 107 8),bu 1290 [cS,fF,m8],aA,aA,fW 2,aA,aA,aA,aA,rF jO 1644 2,bG jP jP 732 127 3 3 6,aA,bA,fW 4,aA,iz (J 0x3e656c75646f6d3c) 182 1,bH uw uw (bM 0) hm0,bG rH rH 246 18 1 3 4,rE 8 [(64522,331,yN,486),(64523,333,gR,487),(64524,335,wb,488),(64525,337,gS,489),(64526,339,rI,490),(64527,341,c5,491),(64528,343,c5,492),(64529,345,c5,493)],iz mn 558 87,aA,bB cQ GU (mem 105 0),oG 3,bu 920 [FO,FP,FQ,FT,FU,FV,FX,FY,FZ,F0,F1,F3,F4,F5,F6,F7,F8,F9],bH d8 Hf (mem 107 14) dC,bB cQ Fe (mem 70 0),aA,bG qh G4 1439 341 1 3 4,aA,aA,bU [ni (-1) 197],oG 1,bG jP Fq 786 147 3 3 6,bA,bB sH sH (bM 121),bB rW rW (bM 93),bG qi Hk 1600 517 4 3 9,gP P 4 [(iB,689,us rO 639),(iC,693,ni 114 692),(cQ,703,rf 220),(j6,711,rf 227),(iD,715,rf 228),(kT,717,rf 231),(jO,719,rf 232),(m3,720,.none)],rF jO 865 2,bu 1504 [cU,fF,bZ,bX],aA,bA,bU [ni (-2) 200,ni 1 366,ni 1 367],bU [ni (-1) 197,ni (-1) 197],lH,bG mr Fj 771 141 1 3 4,bH r9 r9 (bM 106) dC,aA,bG rU rU 1156 216 1 3 8,bA,fy gm,bu 846 [cU,m8],aA,bG uG uG 1279 259 2 3 5,fy p8,aA,bu 634 [bX],bH iW Ft (mem 76 6) gm,aA,bH sJ sJ (bM 123) p9,bH rZ rZ (bM 95) dC,bu 1636 [fQ,fO,gB,d9,iX],bA,bH uB uB (bM 78) gm,bB lI Hc (mem 107 12),jM yZ 1305,aA,bB rG rG (bM 10),bH uy uy (bM 12) E1,bU [ni (-1) 197],bH cQ E9 (mem 64 0) v8,bB mq Fi (mem 76 1),oG 3,bH sy sy (bM 117) p9,rE 17 [(49,1050,Gj,1051),(50,1053,Gk,1054),(51,1056,Gl,1057),(52,1059,Gm,1060),(53,1062,Gn,1063),(54,1065,Gp,1066),(55,1068,Gq,1069),(58,1071,Gs,1072),(59,1074,Gu,1075),(60,1077,Gv,1078),(61,1080,Gw,1081),(62,1083,Gx,1084),(63,1086,Gy,1087),(64,1089,Gz,1090),(167,1092,GA,1093),(172,1095,GB,1096),(173,1098,GD,1099)],aA,oG 3,bA,bH sh G5 (mem 107 6) dC,bB r8 r8 (bM 100),rD sv sv 1697 566 2 3,bu 531 [ml,J 0x747361656c,OB,E7,E8],fy v8,bG qd Fs 796 150 2 3 6,bu 1414 [cU,J 0x6b736174,gz,OV],bG sI sI 1828 665 2 3 6,bG rY rY 1233 237 1 3 4,bH uN Hl (mem 107 20) dC,bA,bG rQ rQ 870 182 1 3 4,aA,bA,bu 1745 [cU,hU,mx,B7],bU [ni (-2) 200,ni 8 399],bU [ni 124 517,ni 138 518,rf 91,rf 92],bu 600 [cU,gT,dq,da],bG iV Fp 778 144 2 3 5,aA,bA,bH rV rV (bM 87) Oz,bB uM Hj (mem 107 18),aA,aA,bA,bH uH uH (bM 102) dC,aA,bB uz uz (bM 62),aA,bU [.none],bB m9 GZ (mem 107 4),aA,aA,bA,gP P 17 [(iB,749,us rO 639),(oy,751,us yQ 750),(iC,753,ni 130 752),(cQ,763,rf 264),(mq,770,rf 271),(mr,777,rf 278),(iV,785,rf 286),(jP,794,rf 294),(qd,804,rf 302),(iW,811,rf 309),(yR,819,rf 316),(yS,827,rf 324),(rP,834,rf 331),(yT,842,rf 338),(mw,850,rf 345),(m7,857,rf 352),(iD,862,rf 353)],aA,bG kW He 1537 441 4 3 10,aA,bB y6 Ht (mem 115 5),hq (x2 P k),hq (boot_o_4 P),hq (boot_o_8 P),bA,aA,bU [ni (-2) 200,ni 1 405],bU [.type "Exception"],iz yQ 744 130,fy dC,bu 1776 [iF,eB,oF],aA,bA,fy gm,bu 823 [cU,j6],aA,rD uP uP 1869 730 1 3,rD kU kU 1255 250 1 3,bB so so (bM 108),bU [ni 167 519,ni 167 520,rf 94,rf 95],bG cQ Fb 597 94 4 3 7,aA,aA,bB sG sG (bM 120),gP P 5 [(gq,1209,us gq 1210),(gv,1211,us gv 1212),(gw,1213,us gw 1214),(gS,1215,us gS 1216),(wa,1217,us gw 1218)],aA,aA,bH m7 Fz (mem 76 12) gm,bB uL G9 (mem 107 9),bu 1299 [mx,fF,J 0x746e656e6f707865],aA,bU [ni (-2) 200,ni 8 351,ni 0 352],bU [ni (-1) 197],hq (ahU P k),aA,bA,bu 1800 [nq,sA,m8,cS,da],aA,aA,lH,bB yT Fx (mem 76 10),bu 1463 [cU,jS,fF,bX,gu],aA,lH,bG rJ rJ 528 72 1 3 8,bu 628 [cU,gT,bX],bA,bG uJ GX 1411 309 2 3 7,bA,bA,bu 1628 [cU,bZ,bX,eB,O0],bB iV iV (bM 72),bA,bH nh Hb (mem 107 11) dC,bB cQ GS (mem 104 0),bG sx Hq 1742 599 2 3 7,v7 2 [⟨(-16),ni (-16) 203,us gq 233⟩,⟨(-17),ni (-17) 206,us E5 234⟩],bA,bU [ni 69 503,ni 69 504,rf 70,rf 71],bA,bH cQ Fh (mem 76 0) gm,bu 1361 [bX,oz,qg,bZ],bA,bU [ni 103 943,us BW 944,rf 389],bu 1564 [cU,ml,B5,fF,bZ,bX,c5,hU,uA,m8],bu 669 [da,dq,gz,cS,qc],aA,bA,bH r7 r7 (bM 99) dC,rD kU kU 1690 553 3 3,bU [ni (-2) 200],lH,aA,bB sa GW (mem 107 1),aA,aA,bA,rF jO 718 2,aA,bG ng Ha 1501 414 4 3 7,aA,bB d8 Hp (mem 115 2),bU [ni (-2) 200,ni 2 375,ni 0 376],bU [ni (-2) 200],jB [(94,8)],aA,gP P 26 [(iB,1389,us rX 1174),(oy,1391,us y3 1390),(iC,1393,ni 293 1392),(cQ,1402,rf 547),(sa,1410,rf 554),(uJ,1420,rf 561),(jS,1429,rf 568),(m9,1438,rf 575),(qh,1445,rf 582),(sh,1459,rf 589),(uK,1470,rf 596),(sj,1485,rf 603),(uL,1500,rf 610),(ng,1510,rf 617),(nh,1524,rf 624),(lI,1536,rf 631),(kW,1549,rf 638),(d8,1560,rf 645),(oE,1576,rf 652),(gQ,1584,rf 659),(gu,1593,rf 666),(uM,1599,rf 671),(qi,1611,rf 678),(uN,1624,rf 685),(jR,1635,rf 692),(iD,1641,rf 693)],aA,bA,bB gu Hi (mem 107 17),bu 697 [cU,bZ,dq,da],bG mw Fy 843 174 1 3 5,aA,bA,bu 1718 [cU,wh],bH rK rK (bM 61) kS,oG 1,bu 815 [cU,gz],bH jS GY (mem 107 3) dC,bu 1863 [fF,O8,y7],bu 1250 [m6,hU],uv kT 1642,bB jP jP (bM 74),bu 892 [fF,J 0x73746962,J 0x666c6168,OB],aA,oG 3,bH uO Hr (mem 115 4) p8,hq (x12 k),bG uw uw 187 1 1 3 4,bB rH rH (bM 11),rE 17 [(28,297,eB,452),(32,299,gQ,454),(33,301,gQ,456),(34,303,gQ,458),(35,305,gv,460),(36,307,gv,462),(37,309,c5,464),(38,311,c5,466),(63,313,gR,468),(64,315,gR,470),(65,317,hS,472),(66,319,mj,474),(208,321,E6,476),(209,323,hW,478),(210,325,gq,480),(64520,327,wa,482),(64521,329,gw,484)],jB [(89,8)],bu 757 [cU,bZ,dq,da],aA,rF jO 1782 2,bu 908 [FA,FC,FD,FE,FF,FG,FH,FJ,FK,FL,FN],bG d8 Hf 1550 465 5 3 8,aA,uu yS Fv (mem 76 8) (.ref 317) gm,bB qh G4 (mem 107 5),bu 1265 [bZ,bX],gP P 7 [(cZ,1668,us cZ 1669),(gq,1670,us O1 1671),(c5,1672,us c5 1673),(gR,1674,us gR 1675),(gv,1676,us gv 1677),(gS,1678,us O2 1679),(gw,1680,us O3 1681)],bU [ni (-1) 197],hq ⟨.type "type",LA,.cls ⟨rM,[.ref 144],[.ref 164,.ref 144,.type "Exception",.type "BaseException",.type "object"],163,rM,W,[],[],LB,LA,LB⟩,⟨[Y (.ref 148),LA,Y (.str rM 585),Y (.str rM 593),Y (.builtin "Exception.__new__"),Y (.bool W)]⟩⟩,bB jP Fq (mem 76 4),aA,bA,aA,bB qi Hk (mem 107 19),bu 712 [da,bZ,dq],uv kT 863,bA,bH uI uI (bM 103) dC,aA,bU [ni (-1) 197,ni 2 363,ni 0 364],bU [ni 103 511,ni 105 512,rf 82,rf 83],bU [rf 144],bB mr Fj (mem 76 2),bG r9 r9 1373 291 3 3 6,bH sD sD (bM 118) p9,bB rU rU (bM 86),aA,iz yP 684 114,bA,bH uK G6 (mem 107 7) dC,bB uG uG (bM 101),iz y4 1705 573,bu 542 [ml],bH cQ Fd (mem 66 0) v8,bG iW Ft 805 156 1 3 4,bu 1424 [cU,jS,m6],bG sJ sJ 1837 668 3 3 20,bG rZ rZ 1240 239 1 3 4,bH jR Hm (mem 107 21) dC,aA,bG uB uB 877 184 2 3 9,aA,gP P 4 [(iB,1312,us rX 1174),(iC,1316,ni 277 1315),(cQ,1326,rf 498),(iD,1331,rf 499),(kT,1333,rf 502),(jO,1335,rf 503),(m3,1336,.none)],bu 1755 [cU,bZ,bX,dq,da,O4,iF,wi,oE,hU],aA,bG uy uy 253 20 1 3 5,bU [ni (-2) 200],bG cQ E9 568 89 2 3 5,aA,rF jO 1368 2,bG sy sy 1789 628 1 3 5,rE 17 [(27,999,jR,1000),(28,1002,jR,1003),(0,1005,Ga,1006),(1,1008,rS,1009),(18,1011,BY,1012),(19,1014,yU,1015),(35,1017,yV,1018),(36,1020,yW,1021),(37,1023,BZ,1024),(38,1026,B0,1027),(40,1029,Gb,1030),(41,1032,Gd,1033),(44,1035,Ge,1036),(45,1038,Gf,1039),(46,1041,Gg,1042),(47,1044,Gh,1045),(48,1047,Gi,1048)],bH oE Hg (mem 107 15) dC,rF jO 677 2,aA,bG sh G5 1446 345 3 3 11,aA,bB sv sv (bM 114),bA,iz rN 615 98,bB qd Fs (mem 76 5),bA,bB sI sI (bM 122),bB rY rY (bM 94),bG uN Hl 1612 527 6 3 10,aA,bB rQ rQ (bM 77),bu 1514 [cU,bZ,bX,wg,eB,OY,OZ,j6],aA,bA,bU [ni (-1) 197,ni 4 397],bU [ni (-2) 200],bA,bB iV Fp (mem 76 3),fy dC,aA,bG rV rV 1167 224 1 3 4,bA,bH cQ Ff (mem 71 0) gm,bu 854 [cU],aA,bG uH uH 1287 263 2 3 6,bH cQ Hn (mem 115 0) p8,aA,gP P 5 [(iB,652,us rO 639),(oy,654,us yO 653),(iC,656,ni 106 655),(cQ,668,rf 199),(iD,674,rf 200)],bH yR Fu (mem 76 7) gm,aA,bH sL sL (bM 124) p9,bH r6 r6 (bM 96) dC,aA,lH,bH uC uC (bM 79) gm,bB kW He (mem 107 13),gP P 5 [(iB,1346,us rX 1174),(oy,1348,us y1 1347),(iC,1350,ni 284 1349),(cQ,1360,rf 519),(iD,1365,rf 520)],aA,hq (boot_o_6 P),hq (boot_o_10 P),aA,bu 249 [qb],bU [ni (-2) 200,ni 4 409],gP P 5 [(iB,563,us rL 554),(oy,565,us mn 564),(iC,567,ni 87 566),(cQ,575,rf 141),(iD,577,rf 142)],aA,bA,jM y4 1703,bG rR rR 899 205 1 3 4,aA,bA,bB yS Fv (mem 76 8),bu 1442 [cU],aA,bH so so (bM 108) dC,bU [ni (-2) 200],bu 607 [da,dq],bu 789 [cU,gz,cS],bG cQ GV 1394 295 3 3 6,bH sG sG (bM 120) p9,bA,bu 1603 [cU,ml,bZ,bX,GR,J 0x6e67696c61],bG j6 Fg 704 121 1 3 5,gP P 4 [(iB,749,us rO 639),(iC,753,ni 130 752),(cQ,763,rf 264),(mq,770,rf 271),(mr,777,rf 278),(iV,785,rf 286),(jP,794,rf 294),(qd,804,rf 302),(iW,811,rf 309),(yR,819,rf 316),(yS,827,rf 324),(rP,834,rf 331),(yT,842,rf 338),(mw,850,rf 345),(m7,857,rf 352),(iD,862,rf 353),(kT,864,rf 356),(jO,866,rf 357),(m3,867,.none)],bH uL G9 (mem 107 9) dC,bB uI uI (bM 103),bG y5 Ho 1723 583 3 3 7,bU [ni (-1) 197,ni 1 357,ni 0 358],bU [ni (-1) 197],oG 2,bu 774 [cU],aA,bB sD sD (bM 118),bu 1159 [qb,uA,OO,GP,ml],bG gQ Hh 1577 485 2 3 5,aA,bH yT Fx (mem 76 10) gm,bB uK G6 (mem 107 7),bu 1282 [bZ,bX],aA,aA,bB cQ Fd (mem 66 0),aA,aA,aA,aA,bB jR Hm (mem 107 21),uu iV iV (bM 72) (.ref 235) gm,aA,bA,bH cQ GS (mem 104 0) dC,aA,bA,aA,bU [ni (-1) 197],aA,bA,jM y1 1339,aA,bU [rf 390,rf 391,rf 392,rf 393],bB oE Hg (mem 107 15),jM yO 645,bG rP Fw 828 168 1 3 4,aA,bA,aA,bU [rf 72,rf 75,rf 78,rf 81,rf 84,rf 87,rf 90,rf 93,rf 96,rf 99,rf 102,rf 105],aA,bu 799 [cU,gT,m6],bH sa GW (mem 107 1) dC,bu 1831 [Hu,B8,mx],bu 1236 [m6],aA,fW 4,bu 873 [OD],aA,iz yZ 1307 277,bH d8 Hp (mem 115 2) p8,bU [ni (-2) 200,ni 4 381,ni 0 382],bU [ni 121 515,ni 123 516,rf 88,rf 89],fy v8,bu 781 [cU,j6],jB [(295,8),(302,15),(309,22),(320,29),(337,36),(341,43),(345,50),(358,57),(375,64),(393,71),(414,78),(419,85),(435,92),(441,99),(465,106),(468,113),(485,120),(492,127),(500,132),(517,139),(527,146),(539,153)],bG sF sF 1808 646 0 3 3,aA,bH gu Hi (mem 107 17) dC,bB cQ Ff (mem 71 0),aA,bG sj G7 1471 375 2 3 12,aA,bB cQ Hn (mem 115 0),bA,aA,bB yR Fu (mem 76 7),bA,bB sL sL (bM 124),bB r6 r6 (bM 96),oG 3,uu jP jP (bM 74) (.ref 243) gm,bB uC uC (bM 79),bu 1540 [cU,fF,bZ,bX,ml,B5,d8],aA,bA,hq ⟨.type "frame",LA,.plain,⟨[Y (.ref 13),Y (.ref 3),Y (.ref 3),LA,Y (.str E3 164),LA,Y (.ref 0)]⟩⟩,v7 4 [⟨(-2),ni (-1) 197,us hS 211⟩,⟨(-2),ni (-2) 200,us mj 212⟩,⟨(-16),ni (-16) 203,us yL 213⟩,⟨(-17),ni (-17) 206,us ux 214⟩],bH rH rH (bM 11) E1,bU [ni (-1) 197],fy v8,bB cQ Fh (mem 76 0),bG cQ GU 1351 286 4 3 7,fW 4,bU [ni 69 939,us BW 940,rf 388],aA,bG cQ Fe 657 108 6 3 9,bA,bH qh G4 (mem 107 5) dC,bB r7 r7 (bM 99),bA,bU [ni 192 523,ni 193 524,rf 100,rf 101],fW 2,uu jP Fq (mem 76 4) (.ref 287) gm,bu 1406 [cU,bZ],rD sH sH 1822 652 4 3,bG rW rW 1225 233 2 3 5,bH qi Hk (mem 107 19) dC,jM yP 682,oG 3,aA,lH,bu 1736 [cU,wh,fF],bU [ni (-2) 200,ni 1 369,ni 0 370],bU [ni (-1) 197],gP P 5 [(iB,592,us rL 554),(oy,594,us rM 593),(iC,596,ni 92 595),(cQ,606,rf 161),(iD,609,rf 162)],bH mr Fj (mem 76 2) gm,aA,bA,bH rU rU (bM 86) Oz,bu 1588 [cU,fF,mx],aA,aA,bA,bH uG uG (bM 101) dC,aA,bB rK rK (bM 61),gP P 2 [(iB,620,us rL 554),(iC,624,ni 98 623),(cQ,633,rf 180),(iD,635,rf 181),(m3,636,.none)],aA,bB jS GY (mem 107 3),aA,aA,gP P 4 [(iB,1389,us rX 1174),(iC,1393,ni 293 1392),(cQ,1402,rf 547),(sa,1410,rf 554),(uJ,1420,rf 561),(jS,1429,rf 568),(m9,1438,rf 575),(qh,1445,rf 582),(sh,1459,rf 589),(uK,1470,rf 596),(sj,1485,rf 603),(uL,1500,rf 610),(ng,1510,rf 617),(nh,1524,rf 624),(lI,1536,rf 631),(kW,1549,rf 638),(d8,1560,rf 645),(oE,1576,rf 652),(gQ,1584,rf 659),(gu,1593,rf 666),(uM,1599,rf 671),(qi,1611,rf 678),(uN,1624,rf 685),(jR,1635,rf 692),(iD,1641,rf 693),(kT,1643,rf 696),(jO,1645,rf 697),(m3,1646,.none)],bu 735 [m6,gz,cS],aA,bG lI Hc 1525 435 3 3 9,uv kT 1332,bB uO Hr (mem 115 4),bG rG rG 238 13 1 3 5,BU 12 [(40,347),(41,350),(44,353),(45,356),(46,359),(47,362),(48,365),(49,368),(50,371),(51,374),(52,377),(53,380)],bU [ni 80 507,ni 80 508,rf 76,rf 77],bu 576 [gT],bG mq Fi 764 138 1 3 4,fW 4,aA,rE 17 [(192,1101,GF,1102),(193,1104,GG,1105),(194,1107,GH,1108),(195,1110,GI,1111),(196,1113,GJ,1114),(208,1116,GK,1117),(209,1119,GL,1120),(210,1122,B1,1123),(64520,1125,B2,1126),(64521,1128,wc,1129),(64522,1131,GN,1132),(64523,1134,GO,1135),(64524,1137,qf,1138),(64525,1140,yX,1141),(64526,1143,we,1144),(64527,1146,B3,1147),(64528,1149,yY,1150)],bA,fW 4,bu 838 [cU,cS],aA,bG r8 r8 1270 255 3 3 6,bH sv sv (bM 114) p8,aA,aA,uu qd Fs (mem 76 5) (.ref 295) gm,aA,bH sI sI (bM 122) p9,bH rY rY (bM 94) dC,aA,bu 726 [m6,j6],bH rQ rQ (bM 77) gm,bB nh Hb (mem 107 11),bu 1320 [cU,qb,hY,fF],aA,bU [ni (-1) 197,ni 1 401],bU [ni (-2) 200],aA,uu iV Fp (mem 76 3) (.ref 279) gm,bA,bu 1817 [eB,hU],bu 1178 [hX,uD,fP],rD uM Hj 1594 500 6 3,bA,bB m7 Fz (mem 76 12),bu 1489 [cU,fF,bZ,gu,bX,hU,G8,wg,OX],aA,bA,bG uz uz 546 83 1 3 5,jB [(108,8)],aA,bG m9 GZ 1430 337 3 3 6,bA,bA,bu 1652 [d9,gB,bZ],aA,bA,bH kW He (mem 107 13) dC,jB [(286,8)],bG y6 Ht 1768 625 2 3 5] λa _=>a
def S0(w:ac9)(os:abh):akz:=⟨TR w.params 0 15,15,oR,⟨[]⟩,lX,187,os⟩
def S1(w:ac9)(os:abh):akz:=⟨TR w.params 1 67,67,oR,⟨[]⟩,lX,418,os⟩
def S2(w:ac9)(os:abh):akz:=⟨TR w.params 2 148,148,oR,⟨[]⟩,lX,585,os⟩
def S3(w:ac9)(os:abh):akz:=⟨TR w.params 3 251,251,oR,⟨[]⟩,lX,742,os⟩
def S4(w:ac9)(os:abh):akz:=⟨TR w.params 4 395,395,oR,⟨[]⟩,lX,948,os⟩
def S5(w:ac9)(os:abh):akz:=⟨TR w.params 5 407,407,oR,⟨[]⟩,lX,1167,os⟩
def S6(w:ac9)(os:abh):akz:=⟨TR w.params 6 534,534,oR,⟨[]⟩,lX,1382,os⟩
def S7(w:ac9)(os:abh):akz:=⟨TR w.params 7 719,719,oR,⟨[]⟩,lX,1703,os⟩
def S8(w:ac9)(os:abh):akz:=⟨TR w.params 8 834,834,oR,⟨[]⟩,lX,1875,os⟩
def nU(w:ac9)(n:Nat)(S:akz)(a:alw)(r:Option (am7×akz×Code×Pos)):Prop:=(am4 aj5 pw (w.withFollow "special-get-raises" LB) 11 (Y (.ref 6)) 1 n S a,am4 aj5 pw (w.withFollow "special-get-raises" W) 11 (Y (.ref 6)) 1 n S a)=(r,r)
def TN:alw:=⟨(ajV (jW 0 58) mX).wrap amE alI id id,cE,⟨0,0,0,0⟩,[akv ⟨0,0,0,0⟩]⟩
noncomputable def en0:Pos:=⟨69,0,69,6⟩
noncomputable def Ra:Nat:=1115
def TO:alw:=⟨(ajV (jW 58 7) mX).wrap amE alI id id,cE,⟨69,0,69,6⟩,[akv ⟨0,0,0,0⟩]⟩
noncomputable def EA:Pos:=⟨87,0,91,22⟩
noncomputable def Rb:Nat:=1254
def TP:alw:=⟨(ajV (jW 65 11) mX).wrap amE alI id id,cE,⟨87,0,91,22⟩,[akv ⟨0,0,0,0⟩]⟩
noncomputable def en2:Pos:=⟨129,0,129,14⟩
noncomputable def Rd:Nat:=1093
def TQ:alw:=⟨(ajV (jW 76 9) mX).wrap amE alI id id,cE,⟨129,0,129,14⟩,[akv ⟨0,0,0,0⟩]⟩
noncomputable def en3:Pos:=⟨214,0,214,4⟩
noncomputable def Rh:Nat:=830
def TS:alw:=⟨(ajV (jW 85 2) mX).wrap amE alI id id,cE,⟨214,0,214,4⟩,[akv ⟨0,0,0,0⟩]⟩
noncomputable def en4:Pos:=⟨216,0,223,15⟩
noncomputable def Ri:Nat:=1281
def TU:alw:=⟨(ajV (jW 87 20) mX).wrap amE alI id id,cE,⟨216,0,223,15⟩,[akv ⟨0,0,0,0⟩]⟩
noncomputable def en5:Pos:=⟨291,0,292,49⟩
noncomputable def Rj:Nat:=974
def TV:alw:=⟨(ajV (jW 107 8) mX).wrap amE alI id id,cE,⟨291,0,292,49⟩,[akv ⟨0,0,0,0⟩]⟩
noncomputable def en6:Pos:=⟨566,0,572,42⟩
noncomputable def Rk:Nat:=1197
def TX:alw:=⟨(ajV (jW 115 11) mX).wrap amE alI id id,cE,⟨566,0,572,42⟩,[akv ⟨0,0,0,0⟩]⟩
noncomputable def NB:Pos:=⟨730,0,766,16⟩
noncomputable def Rl:Nat:=687
theorem pb0:∀(w:ac9) (os:abh),nU w Ra (S0 w os) TN (Y (.next,S1 w os,cE,en0)):=by
 unfold nU;rw[VX,VP];unfold TN;rw[VY];intro w os
 kernel_rfl!
theorem pb1:∀(w:ac9) (os:abh),nU w Rb (S1 w os) TO (Y (.next,S2 w os,cE,EA)):=by
 unfold nU;rw[VX,VP];unfold TO;rw[VY];intro w os
 kernel_rfl!
theorem pc2:∀(w:ac9) (os:abh),am4 aj5 pw w 11 (Y (.ref 6)) 1 Rd (S2 w os) TP=Y (.next,S3 w os,cE,en2):=by
 rw[VX,VP];unfold TP;rw[VY];intro w os
 kernel_rfl!
theorem pc3:∀(w:ac9) (os:abh),am4 aj5 pw w 11 (Y (.ref 6)) 1 Rh (S3 w os) TQ=Y (.next,S4 w os,cE,en3):=by
 rw[VX,VP];unfold TQ;rw[VY];intro w os
 kernel_rfl!
theorem pb4:∀(w:ac9) (os:abh),nU w Ri (S4 w os) TS (Y (.next,S5 w os,cE,en4)):=by
 unfold nU;rw[VX,VP];unfold TS;rw[VY];intro w os
 kernel_rfl!
theorem pb5:∀(w:ac9) (os:abh),nU w Rj (S5 w os) TU (Y (.next,S6 w os,cE,en5)):=by
 unfold nU;rw[VX,VP];unfold TU;rw[VY];intro w os
 kernel_rfl!
theorem pb6:∀(w:ac9) (os:abh),nU w Rk (S6 w os) TV (Y (.next,S7 w os,cE,en6)):=by
 unfold nU;rw[VX,VP];unfold TV;rw[VY];intro w os
 kernel_rfl!
theorem pc7:∀(w:ac9) (os:abh),am4 aj5 pw w 11 (Y (.ref 6)) 1 Rl (S7 w os) TX=Y (.next,S8 w os,cE,NB):=by
 rw[VX,VP];unfold TX;rw[VY];intro w os
 kernel_rfl!
theorem aex:opening pw=plainProg pw.main.scope.names:=by kernel_rfl!
theorem abl:∀s,fenceModules? pw s=Y s:=by intro s;kernel_rfl!
theorem agx:∀w:ac9,((akX w.params).isNs ajp&&(aoA []:Array aml).size == 0,(akX w.params).objs.size,(akX w.params).nsMap ajp "__annotations__")=(W,11,Y (.ref 6)):=by
 intro w;kernel_rfl!
theorem aeX:∀(w:ac9) (os:abh),topGo aj5 pw w 11 (Y (.ref 6)) 12 ⟨akX w.params,aoA [],aoW,apb,os⟩ (topStub pw)=Y ((S0 w os).abs,⟨denote aj5 cE,cE,⟨0,0,0,0⟩,[akv ⟨0,0,0,0⟩]⟩):=by
 rw[anH,anI,VP];intro w os;kernel_rfl!
theorem Zq:∀(w:ac9) (os:abh),segRun aj5 pw w 11 (Y (.ref 6)) 1 1 (S0 w os).abs (blockOf (amv pw) mX cE ⟨0,0,0,0⟩ [akv ⟨0,0,0,0⟩])=Y (.next,(S0 w os).abs,cE,⟨0,0,0,0⟩):=by
 intro w os;kernel_rfl!
theorem abm:∀(w:ac9) (os:abh),topRun aj5 pw w 11 (Y (.ref 6)) 2 (S8 w os).abs ⟨amE .next,cE,NB,[akv ⟨0,0,0,0⟩]⟩=Y (S8 w os).abs:=by
 intro w os;kernel_rfl!
theorem aeS:amv pw=jW 0 58++(jW 58 7++(jW 65 11++(jW 76 9++(jW 85 2++(jW 87 20++(jW 107 8++(jW 115 11++[]))))))):=by kernel_rfl!
theorem zQ{w:ac9}{n:Nat}{S:akz}{a:alw}(h:nU w n S a r):am4 aj5 pw w 11 (Y (.ref 6)) 1 n S a=r:=by
 have h:=Prod.mk.inj h;have e:=World.withFollow_self w "special-get-raises";cases hb:w.params.followText "special-get-raises"
 .rw[hb]at e;rw[e]at h;exact h.1
 .rw[hb]at e;rw[e]at h;exact h.2
def MM:Nat:=12+(1+(Ra+(Rb+(Rd+(Rh+(Ri+(Rj+(Rk+(Rl+2)))))))))
theorem af4(w:ac9)(os:abh):topRun aj5 pw w 11 (Y (.ref 6)) MM ⟨akX w.params,aoA [],aoW,apb,os⟩ (topStub pw)=Y (S8 w os).abs:=by
 refine go_top (aeX w os) (piece_block (env:=mX) (q:=⟨0,0,0,0⟩) (Zq w os) ?_);rw[aeS];exact akY (akZ (zQ (pb0 w os))) (akY (akZ (zQ (pb1 w os))) (akY (akZ (pc2 w os)) (akY (akZ (pc3 w os))
  (akY (akZ (zQ (pb4 w os))) (akY (akZ (zQ (pb5 w os))) (akY (akZ (zQ (pb6 w os))) (akY (akZ (pc7 w os)) (piece_nil (abm w os)))))))))
def qw:=Tz [108,97,119]
def adZ:=Tz [114,101,97,100,95,98,111,100,121]
def xl:OpenLaw:={prog:=qE,name:=qw,about:=[adZ],foot:=PySem.Challenge.rw_nm0165_02.foot,most:=Y 63,bound:=LA,writes:=LB}
theorem af6:PySem.Challenge.rw_nm0165_02=xl:=by
 unfold PySem.Challenge.rw_nm0165_02;rw[ae3]
 kernel_rfl!
theorem agh:xl.wellSaid=W:=by
 unfold OpenLaw.wellSaid OpenRow.wellSaid OpenRow.partSaid;simp only[LM]
 repeat' apply And.intro
 all_goals (
  (try unfold looksOpen)
  (try simp only[LM])
  (try repeat' apply And.intro)
  all_goals (try simp only[anJ,anK,an5,an6,anL,ak2,anM,anN,aj0,an7,anO,anP,anQ,an8,aoj,an9,anR,aoa,apG,anS,aok,anT]))
 all_goals decide +kernel
def qL:ajI:={qE with main:={qE.main with body:=[bM 125]} }
noncomputable def keysOf:List QA->List Str
 | []=>[]
 |⟨_,.str s _,_⟩::r=>s::keysOf r
 |_::r=>keysOf r
noncomputable def P0:WD:={strHash:=λ_=>0,shareClass:=id,mergeTok:=id,idOf:=λ_=>0,idOfShared:=λ_ _=>0,followText:=λ_=>LB,idOfImm:=λ_=>0}
def u6:List Str:=(keysOf ((Od P0).drop 8)).filter λs=>!(s == qw)
def H1(P:WD):VG:=absHeap (TR P 8 834) 834 oR
theorem ady:∀(w:ac9) (os:abh),(staticsOk (aoX qE.main.body) (akX w.params) (H1 w.params)&&namesBound qE (H1 w.params)&&gensDone ⟨H1 w.params,⟨[]⟩,lX,1875,os⟩&&laidKept (akX w.params) (H1 w.params))=W:=by
 unfold namesBound;rw[aj0,anU,ak2];intro w os
 kernel_rfl!
theorem adz:∀(w:ac9) (os:abh),openSeen qL u6 (aoX qE.main.body) (λ_=>W) W ⟨H1 w.params,⟨[]⟩,lX,1875,os⟩=openGood qL u6:=by
 rw[aob,aj0];intro w os
 kernel_rfl!
def HX:DefRec:=match bM 125 with
 | .FunctionDef n a b _ _ _ sc _ _ pos=>⟨n,a,b,sc,pos⟩
 |_=>⟨qw,⟨[],[],LA,[],[],LA,[]⟩,[],⟨.module,[],LB,LB,[]⟩,⟨0,0,0,0⟩⟩
theorem adu:LeftO qE qL u6 (λ_=>W) (λs=>s.heap) (λw=>H1 w.params) MM:=by
 refine LeftO.of_pieces (H₀:=akX) (H₁:=H1) (gs₀:=aoA []) (gs₁:=⟨[]⟩) (d₀:=aoW) (d₁:=lX) (k₀:=apb) (k₁:=1875) (m₀:=11) (ann:=Y (.ref 6)) (M:=MM)
  (boot_open aex (by decide +kernel) abl) agx (λw os=>af4 w os) (by decide +kernel) (λw=>?_)
 funext os
 exact apw (ady w os) (apw (adz w os) rfl)
theorem ahI(call:WalkO qL u6 (λ_ _=>True) (λw h=>∀a o,(H1 w.params).get? a=Y o->h.get? a=Y o) xl.row.toRowW HX [] λf vs=>apM f vs):PySem.Challenge.rw_nm0165_02.Holds:=by
 rw[af6];refine holds_law agh λb=>?_;refine holds_open (q:=qL) (loose:=u6) (Xt:=λ_=>W) (XP:=λ_ _=>True) (Yf:=λs=>s.heap) (Ya:=λw=>H1 w.params) (N:=MM) (d:=HX) (kwd:=[])
  adu (λw s e a o h=>e▸h) (λw h h' y k a o e=>k a o (y a o e)) (λ_ _=>trivial) (λ_ _ _ _ _=>trivial) ?_ ?_ ?_ (λs _=>recFacts_nil rfl) rfl b ?_ ⟨rfl,rfl,rfl,rfl,rfl,by decide +kernel⟩ ?_ call
 .kernel_rfl!
 .kernel_rfl!
 .kernel_rfl!
 .decide +kernel
 .exact⟨[.list []],by decide +kernel,by decide +kernel⟩
end
section
open PySem PySem.W
noncomputable def sl{α:Type}(a:α):α:=(aoB (⟨⟨a,rfl⟩⟩: Nonempty {x:α // x=a})).1
theorem fU{b:Type}(a:b):sl a=a:=(aoB (⟨⟨a,rfl⟩⟩: Nonempty {x:b // x=a})).2
theorem Jb{b:Type}{P:b->Prop}{a:b}(h:P a):P (sl a):=(fU a).symm▸h
def iK:=J 0
def zV:=J 0x2d2b
def zU:=J 0x65676e617220666f2074756f20746e6174736e6f6320323369
def afn:=J 0x3436665f
def afj:=J 0x3233665f
def afk:=J 0x2e323366
def afm:=J 0x2e343666
def afs:=J 0x2e3631783869
def afp:=J 0x2e3878363169
def afq:=J 0x2e3478323369
def afr:=J 0x2e3278343669
def afi:=J 0x2e3478323366
def afl:=J 0x2e3278343666
def afw:=J 0x7461735f636e757274
def Sb:=J 0x6465767265736572
def Sh:=J 0x726f74617265706f206e776f6e6b6e75
def afv:=J 0x3d74657366666f
def aff:=J 0x3d6e67696c61
def afh:=J 0x206c61636f6c2065746163696c707564
def lN:=J 0x646e65747865
def afy:=J 0x206e776f6e6b6e75
def afA:=J 0x20
def dG:=J 0x646e65707061
def nQ:=J 0x2065707974206e776f6e6b6e75
def nO:=J 0x65707974206e6f6974636e756620656e696c6e69
def I0:=J 0x706f70
def afu:=J 0x6c6562616c20676e69686374616d73696d
def pz:=J 0x65736f6c63
def zS:=J 0x74696d65
def w9:=J 0x393837363534333231302d
def pA:=J 0x24
def xe:=J 0x7424
def tl:=J 0x75
def xc:=J 0x66
def zT:=J 0x67
def tf:=J 0x64
def xb:=J 0x65
def I2:=J 0x7824
def qF:=J 0x7124
def Se:=J 0x7124206e6f6974636e7566206e776f6e6b6e75
def Sf:=J 0x7124206c61626f6c67206e776f6e6b6e75
def xf:=J 0x712420656c626174206e776f6e6b6e75
def Sd:=J 0x712420746e656d6765732061746164206e776f6e6b6e75
def C0:=J 0x712420746e656d676573206d656c65206e776f6e6b6e75
def pq:=J 0x30
def I1:=J 0x71242065707974206e776f6e6b6e75
def R7:=J 0x312d
def R8:=J 0x36393237363934393234
def R9:=J 0x3939
def C1:=J 0x39392065707974206e776f6e6b6e75
def IX:=J 0x6464612e323366
def IZ:=J 0x755f3436665f7461735f636e7572742e343669
def IY:=J 0x3233665f746572707265746e6965722e323369
def ae5:=J 0x31
def ae6:=J 0x32
def ae7:=J 0x33
def ae8:=J 0x34
def ae9:=J 0x35
def afa:=J 0x36
def afb:=J 0x37
def afc:=J 0x38
def afd:=J 0x39
def ay:Bd:=[(22,[(.int (-1),(.str hS)),(.int (-2),(.str mj)),(.int (-16),(.str yL)),(.int (-17),(.str ux))]),(23,[(.int (-3),(.str OA)),(.int (-4),(.str yM)),(.int (-5),(.str v9))]),(67,[(.int 0,(.str hW)),(.int 1,(.str hW)),(.int 2,(.str hX)),(.int 3,(.str hX)),(.int 4,(.str hX)),(.int 5,(.str hW)),(.int 11,(.str hW)),(.int 12,(.str gu)),(.int 13,(.str gu)),(.int 14,(.str fO)),(.int 15,(.str hW)),(.int 16,(.str gq)),(.int 17,(.str ow)),(.int 18,(.str gq)),(.int 19,(.str ow)),(.int 26,(.str hW)),(.int 27,(.str hW)),(.int 28,(.str eB)),(.int 32,(.str gQ)),(.int 33,(.str gQ)),(.int 34,(.str gQ)),(.int 35,(.str gv)),(.int 36,(.str gv)),(.int 37,(.str c5)),(.int 38,(.str c5)),(.int 63,(.str gR)),(.int 64,(.str gR)),(.int 65,(.str hS)),(.int 66,(.str mj)),(.int 208,(.str E6)),(.int 209,(.str hW)),(.int 210,(.str gq)),(.int 64520,(.str wa)),(.int 64521,(.str gw)),(.int 64522,(.str yN)),(.int 64523,(.str gR)),(.int 64524,(.str wb)),(.int 64525,(.str gS)),(.int 64526,(.str rI)),(.int 64527,(.str c5)),(.int 64528,(.str c5)),(.int 64529,(.str c5))]),(395,[(.int 32,(.str OE)),(.int 65,(.str OF)),(.int 33,(.str OG)),(.int 34,(.str OH)),(.int 66,(.str OI)),(.int 2,(.str hX)),(.int 3,(.str uD)),(.int 4,(.str fP)),(.int 5,(.str qe)),(.int 11,(.str gA)),(.int 12,(.str OJ)),(.int 13,(.str OK)),(.int 14,(.str OL)),(.int 15,(.str OM)),(.int 16,(.str uE)),(.int 17,(.str uF)),(.int 26,(.str ON)),(.int 27,(.str jR)),(.int 28,(.str jR)),(.int 0,(.str Ga)),(.int 1,(.str rS)),(.int 18,(.str BY)),(.int 19,(.str yU)),(.int 35,(.str yV)),(.int 36,(.str yW)),(.int 37,(.str BZ)),(.int 38,(.str B0)),(.int 40,(.str Gb)),(.int 41,(.str Gd)),(.int 44,(.str Ge)),(.int 45,(.str Gf)),(.int 46,(.str Gg)),(.int 47,(.str Gh)),(.int 48,(.str Gi)),(.int 49,(.str Gj)),(.int 50,(.str Gk)),(.int 51,(.str Gl)),(.int 52,(.str Gm)),(.int 53,(.str Gn)),(.int 54,(.str Gp)),(.int 55,(.str Gq)),(.int 58,(.str Gs)),(.int 59,(.str Gu)),(.int 60,(.str Gv)),(.int 61,(.str Gw)),(.int 62,(.str Gx)),(.int 63,(.str Gy)),(.int 64,(.str Gz)),(.int 167,(.str GA)),(.int 172,(.str GB)),(.int 173,(.str GD)),(.int 192,(.str GF)),(.int 193,(.str GG)),(.int 194,(.str GH)),(.int 195,(.str GI)),(.int 196,(.str GJ)),(.int 208,(.str GK)),(.int 209,(.str GL)),(.int 210,(.str B1)),(.int 64520,(.str B2)),(.int 64521,(.str wc)),(.int 64522,(.str GN)),(.int 64523,(.str GO)),(.int 64524,(.str qf)),(.int 64525,(.str yX)),(.int 64526,(.str we)),(.int 64527,(.str B3)),(.int 64528,(.str yY)),(.int 64529,(.str B4))]),(416,[(.str gq,(.str gq)),(.str gv,(.str gv)),(.str gw,(.str gw)),(.str gS,(.str gS)),(.str wa,(.str gw))]),(708,[(.str cZ,(.str cZ)),(.str gq,(.str O1)),(.str c5,(.str c5)),(.str gR,(.str gR)),(.str gv,(.str gv)),(.str gS,(.str O2)),(.str gw,(.str O3))])]
noncomputable def fw:List Nat:=[144,164,183]
noncomputable def ji:List Nat:=[202,230,355,501,522,695,770]
def nz:List (Str×Int):=[(w9,(-123456789)),(R7,(-1)),(pq,0),(Pl,123456789),(ae5,1),(ae6,2),(ae7,3),(ae8,4),(R8,4294967296),(ae9,5),(afa,6),(afb,7),(afc,8),(afd,9),(R9,99)]
def Of:O:=(.tup [.tup [.int 69,.str BW,.tup [.str FA,.str FC,.str FD,.str FE,.str FF,.str FG,.str FH,.str FJ,.str FK,.str FL,.str FN]],.tup [.int 80,.str BX,.tup [.str FA,.str FC,.str FD,.str FE,.str FF,.str FG,.str FH,.str FJ,.str FK,.str FL,.str FN]],.tup [.int 103,.str BW,.tup [.str FO,.str FP,.str FQ,.str FT,.str FU,.str FV,.str FX,.str FY,.str FZ,.str F0,.str F1,.str F3,.str F4,.str F5,.str F6,.str F7,.str F8,.str F9]],.tup [.int 121,.str BX,.tup [.str FO,.str FP,.str FQ,.str FT,.str FU,.str FV,.str FX,.str FY,.str FZ,.str F0,.str F1,.str F3,.str F4,.str F5,.str F6,.str F7,.str F8,.str F9]]])
def Oe:O:=(.tup [.str cZ,.str eC,.str dN,.str gQ,.str oD,.str qe,.str gA,.str m6,.str GR,.str OP,.str gq,.str E5,.str c5,.str gR,.str gv,.str gS,.str gw,.str OQ,.str OR,.str OS,.str OT,.str OU,.str hS,.str mj,.str yL,.str ux])
def Og:O:=(.tup [.str cZ,.str gq,.str c5,.str gR,.str gv,.str gS,.str gw])
def yH:O:=(.tup [.str hX,.str uD,.str fP])
def DY:SM:=(ah (kz ay (.nm 1) (aW (.gl 22)) (a9 (aC aX (ao (aF ay) (aW (.gl 22)) ax) ak) (aU ax) bx)) (aU (aW .none)))
@[irreducible] def BF:Fn:=sl (bz 1 [] 1 DY)
def DU:SM:=(aU (JU ay ak (aW (.gl 23))))
@[irreducible] def yy:Fn:=sl (bz 1 [] 0 DU)
def iy:Fn:=λ_ _ _ _=>False
def DT:SM:=(ah (a9 (aC (dh ay) ak (aW (.gl 67))) (aU (ao (aF ay) (aW (.gl 67)) ak)) bx) (ah (a9 (gf (aC (dh ay) ak (aW (.gl 46))) (gf (aC (dh ay) ak (aW (.gl 59))) lU)) (aU (af qi)) bx) (aU (dP (aC lM (aB iy [ak]) (aW .none)) (aW .none) (af hW)))))
@[irreducible] def BD:Fn:=sl (bz 1 [] 0 DT)
def L7:SM:=(ah (bp (JQ fw [ak,ax])) (cY gT [] [144,164,183] ak ax))
@[irreducible] def uh:Fn:=sl (bz 2 [] 0 L7)
abbrev aqc:=ah (cY dq [202,230,355] [164] ak aD) (cY da [202,230,355] [164] ak ba)
def KZ:SM:=(ah (bp (aB uh [ak,ax])) aqc)
@[irreducible] def Bk:Fn:=sl (bz 4 [] 0 KZ)
def LX:SM:=(ah (bp (aB uh [ak,ax])) (cY bX [355,522] [183] ak aD))
@[irreducible] def Bz:Fn:=sl (bz 3 [] 0 LX)
@[irreducible] def jf:Fn:=sl (An 164 Bk)
@[irreducible] def vH:Fn:=sl (An 183 Bz)
def L6:SM:=(ah (cY gz [202] [] ak ax) (ah (cY cS [202] [] ak aD) (ah (cY qc [202] [] ak ba) (ah (cY dq [202,230,355] [164] ak bw) (cY da [202,230,355] [164] ak bN)))))
@[irreducible] def BC:Fn:=sl (bz 6 [] 0 L6)
@[irreducible] def pQ:Fn:=sl (xK (nV 202 BC))
abbrev aqu:=cY bZ [230,355,522] [] ak ax
def Lq:SM:=(ah aqu aqc)
@[irreducible] def Bu:Fn:=sl (bz 4 [] 0 Lq)
@[irreducible] def vF:Fn:=sl (xK (nV 230 Bu))
abbrev ap7:=au bZ [230,355,522] [] ak
def Lp:SM:=(ah (aZ 1 (dP (aC pe (bW ap7) (aj 0)) (ao (aF ay) ap7 (aj 0)) (aW .none))) (aU (dP (b7 (cJ (jJ ji ax (aW (.gl 202)))) (b7 (aC aX (au gz [202] [] ax) (af hY)) fq)) (au cS [202] [] ax) (af iK))))
@[irreducible] def vR:Fn:=sl (bz 1 [] 1 Lp)
abbrev aqG:=aH j6 [(230,vR)] ak []
abbrev aqB:=jJ ji ak (aW (.gl 230))
def Mb:SM:=(aU (mM aqB (n5 (eY lM ax (aW .none)) (eY aX aqG ax))))
@[irreducible] def BE:Fn:=sl (bz 2 [.none] 0 Mb)
def DX:SM:=(aU (mM (jJ ji ak (aW (.gl 202))) (mM (eY aX (au gz [202] [] ak) ax) (n5 (eY lM aD (aW .none)) (eY aX (au cS [202] [] ak) aD)))))
@[irreducible] def rk:Fn:=sl (bz 3 [.none] 0 DX)
def Lv:SM:=(ah aqu (ah (cY bX [355,522] [183] ak (aj 0)) aqc))
@[irreducible] def Bw:Fn:=sl (bz 4 [] 0 Lv)
@[irreducible] def vG:Fn:=sl (nV 355 Bw)
abbrev aqm:=au bX [355,522] [183] ak
def Lx:SM:=(aU (eY aX aqm (bW ap7)))
@[irreducible] def ue:Fn:=sl (bz 1 [] 0 Lx)
abbrev aqw:=cJ (aH mq [(355,ue)] ak [])
def Lu:SM:=(aU (dP aqw (aW .none) (ao (aF ay) ap7 aqm)))
@[irreducible] def uc:Fn:=sl (bz 1 [] 0 Lu)
abbrev aqF:=aH mr [(355,uc)] ak []
def Lw:SM:=(aU (aB BE [aqF,ax]))
@[irreducible] def ud:Fn:=sl (bz 2 [.none] 0 Lw)
def Ly:SM:=(aU (aB rk [aqF,ax,aD]))
@[irreducible] def yw:Fn:=sl (bz 3 [.none] 0 Ly)
abbrev aqn:=au da [202,230,355] [164] ak
abbrev aqh:=au dq [202,230,355] [164] ak
def Ls:SM:=(ah (aZ 2 aqF) (ah (a9 (aC lM aD (aW .none)) (iP fw (aB jf [ax,aqh,aqn])) bx) (iP fw (aB jf [ax,au dq [202,230,355] [164] aD,au da [202,230,355] [164] aD]))))
@[irreducible] def yv:Fn:=sl (bz 2 [.str cI] 1 Ls)
def LH:SM:=(ah (a9 aqw (bp (aH qd [(355,yv)] ak [])) bx) (ah (cY bX [355,522] [183] ak (ao aQ aqm (aj 1))) (aU (ao (aF ay) ap7 (ao wX aqm (aj 1))))))
@[irreducible] def lB:Fn:=sl (bz 1 [] 0 LH)
abbrev aqO:=cJ (aH jP [(355,yw)] ak [af jQ])
abbrev aq3:=aH iW [(355,lB)] ak []
def LU:SM:=(aU (dP aqO aq3 (aW .none)))
@[irreducible] def Bx:Fn:=sl (bz 1 [] 0 LU)
def Lz:SM:=(ah (aZ 1 (lq ap7 aqm (aW .none) (aW .none))) (ah (cY bX [355,522] [183] ak (bW ap7)) (aU ax)))
@[irreducible] def uf:Fn:=sl (bz 1 [] 1 Lz)
def LV:SM:=(a9 (kD aqw) (bp (aH qd [(355,yv)] ak [])) bx)
@[irreducible] def ug:Fn:=sl (bz 1 [] 0 LV)
abbrev ard:=lq ap7 (aj 1) (aW .none) (aW .none)
def Mp:SM:=(aU (aB vG [ard,aqh,aqn]))
@[irreducible] def rn:Fn:=sl (bz 1 [] 0 Mp)
def Mn:SM:=(ah (a9 (gf (kD (cJ (aB rk [ak,af qj]))) (gf (aC (dh ay) (ao (aF ay) (au cS [202] [] ak) (aj 0)) (af zV)) lU)) (iP fw (aB jf [af cI,aqh,aqn])) bx) (ah (a9 (aC qz (au qc [202] [] ak) (ao tc (aj 2) (aj 32))) (iP fw (aB jf [af zU,aqh,aqn])) bx) (aU (au qc [202] [] ak))))
@[irreducible] def BH:Fn:=sl (bz 1 [] 0 Mn)
abbrev aqN:=lq ak (aW .none) (aj 4) (aW .none)
abbrev aqL:=lq ak (aj 4) (aW .none) (aW .none)
def DS:SM:=(ah (kz ay (.tp [1,2,3]) (aW Of) (a9 (b7 (aC aX aqN aD) (b7 (aC (dh ay) aqL ba) fq)) (aU (ao aQ ax (aH d8 [] ba [aqL]))) bx)) (ah (kz ay (.nm 4) (aW (.gl 395)) (a9 (b7 (aC aX (ao (aF ay) (aW (.gl 395)) bw) ak) (b7 (aC eN bw (aj 28)) fq)) (aU bw) bx)) (aU (aW .none))))
@[irreducible] def vS:Fn:=sl (bz 1 [] 4 DS)
abbrev aqM:=lq ak (aW .none) (aj 6) (aW .none)
def DV:SM:=(ah (a9 (gf (aC (dh ay) aqN (ar [af afk,af afm,af v9])) (gf (aC (dh ay) (af afj) ak) (gf (aC (dh ay) (af afn) ak) lU))) (aU (aW (.bool W))) bx) (aU (n5 (eY (dh ay) aqM (ar [af afs,af afp,af afq,af afr,af afi,af afl])) (eY (dh ay) (af afw) ak))))
@[irreducible] def yz:Fn:=sl (bz 1 [] 0 DV)
abbrev aqv:=au dq [202,230,355] [164] ax
abbrev aqi:=b7 (aC aX ak (af cI)) (b7 (kD (cJ (jJ ji ax (aW (.gl 230))))) (b7 (aC aX (au gz [202] [] ax) (af Sb)) fq))
def Mk:SM:=(ah (a9 aqi (iP fw (aB jf [af Sh,aqv,au da [202,230,355] [164] ax])) bx) (iP fw (aB jf [ak,aqv,au da [202,230,355] [164] ax])))
@[irreducible] def hP:Fn:=sl (bz 2 [] 0 Mk)
def L9:SM:=(aU (dP (cJ aqB) aqG (af iK)))
@[irreducible] def oj:Fn:=sl (bz 1 [] 0 L9)
def DW:SM:=(aU (n5 (eY (dh ay) ak (aW Oe)) (n5 (eY aX (lq ak (aW .none) (aj 7) (aW .none)) (af afv)) (eY aX aqM (af aff)))))
@[irreducible] def yA:Fn:=sl (bz 1 [] 0 DW)
def Mo:SM:=(ah (a9 (gf (cJ aqB) (gf (aC eN (au gz [202] [] ak) (af hY)) lU)) (bp (aB hP [af cI,ak])) bx) (ah (a9 (cJ (aB yy [au cS [202] [] ak])) (iP fw (aB vH [au cS [202] [] ak,aqh])) bx) (ah (aZ 1 (aB BF [au cS [202] [] ak])) (ah (a9 (aC lM ax (aW .none)) (bp (aB hP [af cI,ak])) bx) (aU ax)))))
@[irreducible] def l7:Fn:=sl (bz 1 [] 1 Mo)
def Mc:SM:=(aU (jt (mQ ard) [] (aB l7 [ak]) []))
@[irreducible] def ui:Fn:=sl (bz 1 [] 0 Mc)
def L8:SM:=(aU (mM (eY ef ax (bW ak)) (mM (Dy (jJ ji (ao (aF ay) ak ax) (aW (.gl 230)))) (eY (dh ay) (au gz [202] [] (ao (aF ay) ak ax)) (ar [af qj,af jQ])))))
@[irreducible] def l4:Fn:=sl (bz 2 [] 0 L8)
def Ma:SM:=(ah (a9 (kD (cJ (aB l4 [ak,ax]))) (bp (aB hP [af cI,dP (aC ef ax (bW ak)) (ao (aF ay) ak ax) aD])) bx) (aU (ao (aF ay) ak ax)))
@[irreducible] def vT:Fn:=sl (bz 3 [] 0 Ma)
def LW:SM:=(ah (cY qb [501] [] ak ax) (ah (cY hY [501] [] ak aD) (ah (cY fF [501] [] ak ba) (cY y0 [501] [] ak (aW (.bool LB))))))
@[irreducible] def By:Fn:=sl (bz 4 [] 0 LW)
@[irreducible] def x5:Fn:=sl (nV 501 By)
def Lr:SM:=(ah aqu (ah (cY bX [355,522] [183] ak aD) (ah (cY qg [522] [] ak ba) (cY oz [522] [] ak (aW .none)))))
@[irreducible] def Bv:Fn:=sl (bz 4 [] 0 Lr)
@[irreducible] def Ed:Fn:=sl (nV 522 Bv)
def Ml:SM:=(aU (ar [af jS,aB Ed [ak,ax,aD]]))
@[irreducible] def lC:Fn:=sl (bz 3 [] 0 Ml)
abbrev aqt:=aU (jt (mQ (aH mw [(355,uf)] ba [])) [] (aB l7 [ak]) [])
def Md:SM:=(ah (aZ 3 (aB rn [ak])) (ah (aZ 4 (aH rP [(355,Bx)] ba [])) (ah (a9 (aC lM bw (aW .none)) aqt bx) (ah (a9 (aC IC ax (aW .none)) (ah (a9 (aC (dh ay) (au cS [202] [] bw) ax) (iP fw (aB jf [ao aQ (af afh) (au cS [202] [] bw),au dq [202,230,355] [164] bw,au da [202,230,355] [164] bw])) bx) (mN ax (au cS [202] [] bw) aD)) bx) (ah (aZ 5 (aB l7 [aH iW [(355,lB)] ba []])) (ah (bp (aH m7 [(355,ug)] ba [])) (aU (az [bN]))))))))
@[irreducible] def BG:Fn:=sl (bz 3 [] 3 Md)
abbrev aqb:=iq (cJ (aH iV [(355,ud)] ak [af dN])) (bp (aH lN [] ba [jt (mQ (aH mw [(355,uf)] (aB rn [aq3]) [])) [] (aB l7 [ak]) []]))
def Mm:SM:=(ah (cX [2,3] (ar [gc [],gc []])) (ah (iq (cJ (aH iV [(355,ud)] ak [af eC])) (bp (aH lN [] aD [aB BG [aq3,ax,bW aD]]))) (ah aqb (aU (ar [n6 aD,n6 ba])))))
@[irreducible] def yD:Fn:=sl (bz 2 [] 2 Mm)
def LZ:SM:=(ah (cY iF [770] [] ak (lR [])) (ah (cY oF [770] [] ak (lR [])) (ah (cY eB [770] [] ak (gc [])) (kz ay (.nm 1) (aW Og) (ah (mN (au iF [770] [] ak) ax (lR [])) (mN (au oF [770] [] ak) ax (aj 0)))))))
@[irreducible] def BA:Fn:=sl (bz 1 [] 1 LZ)
@[irreducible] def AY:Fn:=sl (nV 770 BA)
abbrev aqr:=ao (aF ay) (au iF [770] [] ak) ax
def LY:SM:=(ah (a9 (kD (cJ (aB rk [aD,af jQ]))) (aU (aB BH [aD])) bx) (ah (a9 (aC s9 (au cS [202] [] aD) aqr) (iP fw (aB jf [ao aQ (ao aQ (ao aQ (af afy) (ao (aF ay) (aW (.gl 708)) ax)) (af afA)) (au cS [202] [] aD),au dq [202,230,355] [164] aD,au da [202,230,355] [164] aD])) bx) (aU (ao (aF ay) aqr (au cS [202] [] aD)))))
@[irreducible] def jL:Fn:=sl (bz 3 [] 0 LY)
abbrev aq2:=bW (au eB [770] [] ak)
def L4:SM:=(ah (tG (.tp [2,3]) (au eB [770] [] ak) (a9 (aC aX ba ax) (aU aD) bx)) (ah (bp (aH dG [] (au eB [770] [] ak) [ax])) (ah (mN (au oF [770] [] ak) (af cZ) aq2) (aU (ao wX aq2 (aj 1))))))
@[irreducible] def yx:Fn:=sl (bz 2 [] 2 L4)
abbrev aqZ:=au bX [355,522] [183] bN
abbrev ap1:=ah (aZ 9 (aB yD [bN,cq])) (ah (a9 (aC lM ee (aW .none)) (aU (ar [aH sx [(770,yx)] ak [iH],cq,aqZ])) bx) (ah (a9 (aC eN iH (ar [ar [],ar []])) (ah (a9 (aC qz ee aq2) (iP fw (aB jf [ao aQ (af nQ) (je ee),ba,bw])) bx) (a9 (aC eN (ao (aF ay) (au eB [770] [] ak) ee) iH) (iP fw (aB jf [af nO,ba,bw])) bx)) bx) (aU (ar [ee,cq,aqZ]))))
def L5:SM:=(ah (cX [3,4] (dP (aC ef aD (bW ax)) (ar [au dq [202,230,355] [164] (ao (aF ay) ax aD),au da [202,230,355] [164] (ao (aF ay) ax aD)]) (ar [aj 0,aj 0]))) (ah (cX [5,6,7] (ar [aB vG [ax,ba,bw],lR [],aW .none])) (ah (cY bX [355,522] [183] bN aD) (ah (a9 (cJ (aH iV [(355,ud)] bN [af cZ])) (ah (aZ 8 (aB rn [aH iW [(355,lB)] bN []])) (ah (aZ 7 (aH d8 [(770,jL)] ak [af cZ,aH iW [(355,lB)] fX []])) (bp (aH m7 [(355,ug)] fX [])))) bx) ap1))))
@[irreducible] def BB:Fn:=sl (bz 3 [] 7 L5)
def K6:SM:=(ah (cY d9 [695] [] ak ax) (ah (cY gB [695] [] ak aD) (ah (cY fQ [695] [] ak (gc [])) (ah (cY fO [695] [] ak (gc [])) (cY iX [695] [] ak (gc []))))))
@[irreducible] def Bn:Fn:=sl (bz 3 [] 0 K6)
@[irreducible] def xZ:Fn:=sl (nV 695 Bn)
def Lg:SM:=(ah (bp (aH dG [] (au fQ [695] [] ak) [ax])) (bp (aH dG [] (au fO [695] [] ak) [aD])))
@[irreducible] def vQ:Fn:=sl (bz 3 [] 0 Lg)
abbrev aqx:=bp (aH dG [] (au fQ [695] [] ak) [ar [aj 11]])
def K2:SM:=(ah (bp (aH I0 [] (au fO [695] [] ak) [])) aqx)
@[irreducible] def yo:Fn:=sl (bz 1 [] 0 K2)
def Lb:SM:=(ah (a9 (b7 (aC ef ba (bW aD)) (b7 (kD (cJ (jJ ji (ao (aF ay) aD ba) (aW (.gl 230))))) (b7 (aC aX (au gz [202] [] (ao (aF ay) aD ba)) (af jQ)) fq))) (aU (ar [aB x5 [au cS [202] [] (ao (aF ay) aD ba),au cS [202] [] ax,ax],ao aQ ba (aj 1)])) bx) (aU (ar [aB x5 [af iK,au cS [202] [] ax,ax],ba])))
@[irreducible] def vP:Fn:=sl (bz 4 [] 0 Lb)
def Lo:SM:=(ah (cX [3,4,5] (aH uO [(770,BB)] (au d9 [695] [] ak) [ax,aD])) (ah (a9 (aC pe (bW bw) (aj 0)) (bp (aB hP [af cI,ao (aF ay) ax aD])) bx) (aU (ar [ba,bN]))))
@[irreducible] def pY:Fn:=sl (bz 3 [] 3 Lo)
abbrev aqE:=aZ 3 (ao aQ ba (aj 1))
abbrev ap8:=ah (a9 (b7 (kD (cJ bN)) (b7 (aC ef (bW bw) (aj 2)) fq)) (aU (ar [dP (aC aX (bW bw) (aj 1)) (ao (aF ay) bw (aj 0)) (aW (.int (-64))),ba])) bx) (aU (aH lI [(695,pY)] ak [ax,aD]))
def K1:SM:=(ah (cX [3,4,5,6] (ar [aD,gc [],aW (.bool LB),aW (.bool LB)])) (ah (iq (aC ef ba (bW ax)) (ah (aZ 7 (aB oj [ao (aF ay) ax ba])) (ah (a9 (aC aX ee (af dN)) (ah (bp (aH lN [] bw [aB ui [ao (aF ay) ax ba]])) (aZ 6 (aW (.bool W)))) (a9 (gf (b7 (aC aX ee (af cZ)) (b7 (aC aX ba aD) fq)) (gf (b7 (aC aX ee (af eC)) (b7 (kD (cJ cq)) fq)) lU)) (aZ 5 (n5 bN (n5 (eY aX ee (af cZ)) (eY pe (bW (au bZ [230,355,522] [] (ao (aF ay) ax ba))) (aj 1))))) xD)) aqE))) ap8))
@[irreducible] def vO:Fn:=sl (bz 3 [] 5 K1)
def K5:SM:=(aU (ar [aH d8 [(770,jL)] (au d9 [695] [] ak) [ax,aB vT [ba,bw,aD]],ao aQ bw (aj 1)]))
@[irreducible] def lA:Fn:=sl (bz 5 [] 0 K5)
abbrev aqJ:=cX [7,5] (aH lI [(695,pY)] ak [bw,bN])
def K7:SM:=(ah (a9 (aC aX aD (af ow)) (ah (aZ 6 (aj 0)) (ah (a9 (cJ (aB l4 [bw,bN])) (cX [6,5] (aH d8 [(770,jL),(695,lA)] ak [af c5,ba,bw,bN])) bx) (ah aqJ (aU (ar [ar [ax,ee,cq],bN]))))) bx) (ah (aZ 8 (aB vT [bw,bN,ba])) (ah (a9 (aC aX aD (af gQ)) (aU (ar [ar [ax,aH gQ [(695,iy)] ak [fX]],ao aQ bN (aj 1)])) bx) (ah (aZ 9 (gc [aH gu [(695,iy)] ak [fX]])) (ah (aZ 5 (ao aQ bN (aj 1))) (ah (iq (b7 (aC aX aD (af fO)) (b7 (cJ (aB l4 [bw,bN])) fq)) (ah (bp (aH dG [] iH [aH gu [(695,iy)] ak [ao (aF ay) bw bN]])) (aZ 5 (ao aQ bN (aj 1))))) (aU (ar [n6 (ao aQ (az [ax]) iH),bN]))))))))
@[irreducible] def Bo:Fn:=sl (bz 6 [] 4 K7)
abbrev aq8:=dP (aC eN cq (az [])) ee (az [aj 0,aj 0])
abbrev aqk:=aU (ar [n6 (ao aQ (az [ax]) aq8),ao aQ bN (bW cq)])
abbrev aqj:=bp (aH dG [] cq [ao (aF ay) bw (ao aQ bN (bW cq))])
abbrev aqg:=aH d8 [(770,jL),(695,lA)] (au d9 [695] [] ax) [af c5,ak]
abbrev aqe:=b7 (aC ef (bW cq) (aj 2)) (b7 (cJ (aB l4 [bw,ao aQ bN (bW cq)])) fq)
def Ld:SM:=(ah (aZ 6 (gc [])) (ah (iq aqe aqj) (ah (a9 (aC aX aD (af c5)) (ah (a9 (aC aX cq (az [])) (aU (ar [ar [ax,aj 0],bN])) bx) (aU (ar [ar [ax,aH d8 [(770,jL),(695,lA)] (au d9 [695] [] ak) [af c5,ao (aF ay) cq (aj 0)]],ao aQ bN (aj 1)]))) bx) (ah (a9 (aC aX aD (af rI)) (ah (a9 (aC aX (bW cq) (aj 1)) (bp (aB hP [af cI,ao (aF ay) cq (aj 0)])) bx) (ah (aZ 7 (tB cq [0] aqg)) aqk)) bx) (ah (aZ 8 (aB vT [bw,bN,ba])) (ah (aZ 9 (dP (aC aX (bW cq) (aj 2)) (aH d8 [(770,jL),(695,lA)] (au d9 [695] [] ak) [af c5,fX]) (aj 0))) (aU (ar [ar [ax,aH d8 [(770,jL),(695,lA)] (au d9 [695] [] ak) [af gS,ao (aF ay) cq (Un eE (aj 1))],iH],ao aQ bN (bW cq)]))))))))
@[irreducible] def Bp:Fn:=sl (bz 6 [] 4 Ld)
abbrev aqp:=b7 (aC ef aD (bW ax)) (b7 (aC aX (aB oj [ao (aF ay) ax aD]) (af dN)) fq)
def Lm:SM:=(ah (cX [3,4] (ar [gc [],aW (.bool LB)])) (ah (iq aqp (ah (bp (aH lN [] ba [aB ui [ao (aF ay) ax aD]])) (ah (aZ 4 (aW (.bool W))) (aZ 2 (ao aQ aD (aj 1)))))) (ah (a9 (cJ bw) (aU (ar [n6 (ao aQ (az [aj 28]) ba),aD])) bx) (aU (ar [ar [aj 27],aD])))))
@[irreducible] def Bs:Fn:=sl (bz 3 [] 2 Lm)
abbrev aqC:=bp (aB hP [af cI,ax])
def K9:SM:=(ah (a9 (aC aX (au cS [202] [] ax) (af jR)) (aU (aH jR [(695,Bs)] ak [aD,ba])) bx) (ah (a9 (cJ (aB yA [au cS [202] [] ax])) aqC bx) (ah (aZ 4 (aB vS [au cS [202] [] ax])) (ah (a9 (aC lM bw (aW .none)) (ah (a9 (cJ (aB yz [au cS [202] [] ax])) (iP fw (aB vH [au cS [202] [] ax,aqv])) bx) (bp (aB hP [af Sh,ax]))) bx) (ah (aZ 5 (aB BD [bw])) (ah (a9 (aC (dh ay) bN (ar [af hW,af gR,af yN])) (aU (ar [ar [bw],ba])) bx) (ah (a9 (aC (dh ay) bN (aW (.gl 416))) (ah (cX [6,3] (aH d8 [(770,jL),(695,lA)] ak [ao (aF ay) (aW (.gl 416)) bN,ax,aD,ba])) (aU (ar [ar [bw,cq],ba]))) bx) (ah (a9 (aC (dh ay) bN (ar [af gQ,af gu,af fO,af ow])) (aU (aH oE [(695,Bo)] ak [bw,bN,ax,aD,ba])) bx) (ah (a9 (aC (dh ay) bN (ar [af c5,af wb,af rI])) (aU (aH uM [(695,Bp)] ak [bw,bN,ax,aD,ba])) bx) (ah (a9 (aC aX bN (af qi)) (aU (aH qi [(695,iy)] ak [bw,aD,ba])) bx) (aU (aH uN [(695,iy)] ak [bw,bN,ax,aD,ba]))))))))))))
@[irreducible] def yr:Fn:=sl (bz 4 [] 3 K9)
abbrev aqU:=au bZ [230,355,522] [] ax
abbrev aqo:=ao (aF ay) aqU ba
abbrev arb:=bW (au fO [695] [] ak)
abbrev ara:=ao (aF ay) (au fO [695] [] ak) (Un eE (aj 1))
abbrev aq9:=bp (aB hP [af cI,aD])
def Lj:SM:=(ah (a9 (aC aX arb (au oz [522] [] ax)) aq9 bx) (ah (aZ 4 ara) (ah (a9 (b7 (cJ (aB l4 [aqU,ba])) (b7 (aC aX (au gz [202] [] aqo) (af jQ)) fq)) (ah (a9 (aC eN (au cS [202] [] aqo) (au qb [501] [] bw)) (bp (aB hP [af afu,aqo])) bx) aqE) bx) (ah (a9 (aC aX (au cS [202] [] aD) (af gA)) (bp (aH qh [(695,yo)] ak [])) (ah (a9 (gf (aC eN (au hY [501] [] bw) (af fP)) (gf (cJ (au y0 [501] [] bw)) lU)) aq9 bx) (ah (cY y0 [501] [] bw (aW (.bool W))) (bp (aH dG [] (au fQ [695] [] ak) [ar [aj 5]]))))) (aU ba)))))
@[irreducible] def Bq:Fn:=sl (bz 4 [] 1 Lj)
abbrev aqW:=au bX [355,522] [183] ax
def Lh:SM:=(ah (cX [3,4] (ar [aqU,ao aQ aqW (aj 1)])) (ah (a9 (aC (dh ay) (au cS [202] [] aD) (aW yH)) (ah (cX [5,4] (aH ng [(695,vP)] ak [aD,ba,bw])) (ah (cX [6,4] (aH nh [(695,vO)] ak [ba,bw])) (ah (bp (aH m9 [(695,vQ)] ak [ar [aB vS [au cS [202] [] aD],cq],bN])) (aU bw)))) bx) (ah (a9 (aC (dh ay) (au cS [202] [] aD) (ar [af qe,af gA])) (aU (aH uK [(695,Bq)] ak [ax,aD,bw])) bx) (ah (cX [7,4] (aH kW [(695,yr)] ak [aD,ba,bw])) (ah (bp (aH dG [] (au fQ [695] [] ak) [ee])) (aU bw))))))
@[irreducible] def yt:Fn:=sl (bz 3 [] 5 Lh)
def K4:SM:=(ah (cX [3,4] (aH ng [(695,vP)] ak [ax,aD,aj 1])) (ah (cX [5,4] (aH nh [(695,vO)] ak [aD,bw])) (ah (aZ 6 bw) (ah (iq (b7 (aC ef cq (bW aD)) (b7 (aC eN (aB oj [ao (aF ay) aD cq]) (af oD)) fq)) (aZ 6 (ao aQ cq (aj 1)))) (ah (a9 (aC aX cq (bW aD)) aqC bx) (ah (aZ 7 (ao aQ cq (aj 1))) (ah (aZ 8 (gc [ar [af pz,aW .none]])) (ah (a9 (b7 (aC ef ee (bW aD)) (b7 (aC aX (aB oj [ao (aF ay) aD ee]) (af qe)) fq)) (ah (bp (aH dG [] fX [aB lC [au bZ [230,355,522] [] (ao (aF ay) aD ee),aj 1,aW (.bool LB)]])) (ah (bp (aH dG [] fX [ar [af zS,ar [aj 5]]])) (aZ 7 (ao aQ ee (aj 1))))) bx) (ah (a9 (aC ef ee (bW aD)) (bp (aB hP [af cI,ao (aF ay) aD ee])) bx) (ah (bp (aH dG [] fX [aB lC [au bZ [230,355,522] [] (ao (aF ay) aD cq),aj 1,aW (.bool LB)]])) (ah (bp (aH dG [] fX [ar [af BV,ar [ar [aj 4,bN],ba]]])) (ah (bp (aH dG [] fX [aB lC [lq aD bw cq (aW .none),aj 0,aW (.bool W)]])) (bp (aH lN [] (au iX [695] [] ak) [fX]))))))))))))))
@[irreducible] def Bl:Fn:=sl (bz 3 [] 6 K4)
abbrev aqD:=ao (aF ay) aqU (aj 0)
def K3:SM:=(ah (aZ 2 (aB oj [ax])) (ah (a9 (aC aX aD (af iK)) aqC bx) (ah (cX [3,4] (ar [aqD,aqU])) (a9 (aC aX aD (af fP)) (bp (aH uL [(695,Bl)] ak [ba,bw])) (a9 (aC (dh ay) aD (aW yH)) (ah (cX [5,6] (aH ng [(695,vP)] ak [ba,bw,aj 1])) (ah (cX [7,6] (aH nh [(695,vO)] ak [bw,cq])) (ah (bp (aH m9 [(695,vQ)] ak [ar [aB vS [aD],ee],bN])) (ah (bp (aH dG [] (au iX [695] [] ak) [ar [af pz,aW .none]])) (bp (aH dG [] (au iX [695] [] ak) [aB lC [bw,cq,aW (.bool LB)]])))))) (ah (cX [8,6] (aH kW [(695,yr)] ak [ba,bw,aj 1])) (ah (bp (aH dG [] (au iX [695] [] ak) [ar [af zS,fX]])) (bp (aH dG [] (au iX [695] [] ak) [aB lC [bw,cq,aW (.bool W)]])))))))))
@[irreducible] def yq:Fn:=sl (bz 2 [] 7 K3)
abbrev apY:=ah (a9 (aC aX aqW (bW aqU)) (ah (a9 (aC pe arb (au oz [522] [] ax)) (bp (aB hP [af cI,au fF [501] [] ara])) bx) Dz) bx) (ah (aZ 2 (ao (aF ay) aqU aqW)) (ah (bp (aH dG [] (au iX [695] [] ak) [ar [af jS,ax]])) (a9 (cJ (jJ ji aD (aW (.gl 230)))) (ah (cY bX [355,522] [183] ax (ao aQ aqW (aj 1))) (bp (aH sj [(695,yq)] ak [aD]))) (a9 (gf (cJ (au qg [522] [] ax)) (gf (aC eN (au gz [202] [] aD) (af hY)) lU)) aq9 (cY bX [355,522] [183] ax (aH sh [(695,yt)] ak [ax,aD]))))))
def Ll:SM:=(ah (a9 (aC lM (au oz [522] [] ax) (aW .none)) (cY oz [522] [] ax arb) bx) apY)
@[irreducible] def Br:Fn:=sl (bz 2 [] 1 Ll)
def Ln:SM:=(ah (cX [2,3] ax) (a9 (aC aX aD (af zS)) (bp (aH dG [] (au fQ [695] [] ak) [ba])) (a9 (aC aX aD (af BV)) (bp (aH m9 [(695,vQ)] ak [ao (aF ay) ba (aj 0),ao (aF ay) ba (aj 1)])) (a9 (aC aX aD (af pz)) (bp (aH qh [(695,yo)] ak [])) (bp (aH jS [(695,Br)] ak [ba]))))))
@[irreducible] def Bt:Fn:=sl (bz 2 [] 2 Ln)
def Lk:SM:=(ah (bp (aH dG [] (au iX [695] [] ak) [aB lC [ax,aj 0,aW (.bool LB)]])) (ah (iq (aC eN (au iX [695] [] ak) (az [])) (bp (aH uJ [(695,Bt)] ak [aH I0 [] (au iX [695] [] ak) []]))) (ah aqx (aU (au fQ [695] [] ak)))))
@[irreducible] def yu:Fn:=sl (bz 2 [] 0 Lk)
def Mj:SM:=(aU (aH sa [(695,yu)] (aB xZ [ak,ax]) [aD]))
@[irreducible] def oq:Fn:=sl (bz 3 [] 0 Mj)
def Mf:SM:=(ah (aZ 1 (ao (aF ay) ak (aj 1))) (ah (mN ak (aj 1) (ao aQ ax (aj 1))) (ah (a9 (aC ef ax (bW (ao (aF ay) ak (aj 0)))) (aU (ao aQ (ao (aF ay) (ao (aF ay) ak (aj 0)) ax) (ao CS (aj 41) ax))) bx) (aU (ao CS (aj 41) ax)))))
@[irreducible] def oo:Fn:=sl (bz 1 [] 1 Mf)
abbrev aqK:=kD (cJ (jJ ji ba (aW (.ty "str"))))
abbrev aq4:=dP (aC aX (ao (aF ay) ba (aj 0)) (af pA)) (af jQ) (af hY)
abbrev ap5:=a9 (aC (dh ay) (ao (aF ay) ba (aj 0)) (af w9)) (bp (aH dG [] aD [aB pQ [af qj,ba,ToInt nz ba,aj 1,bw]])) (bp (aH dG [] aD [aB pQ [aq4,ba,ba,aj 1,bw]]))
def vC(n:Nat)(F:Fn):SM:=(ah (aZ 2 (gc [])) (ah (kz ay (.nm 3) ak (ah (Al ax (aj 0) (aj 1)) (ah (aZ 4 (ao (aF ay) ax (aj 0))) (a9 aqK (bp (aH dG [] aD [aB vF [aB F [ba,ax],aj 1,bw]])) ap5)))) (aU aD)))
def l5:Nat->Fn
 |0=>λ_ _ _ _=>False
 |n+1=>xK (bz 2 [] 3 (vC n (l5 n)))
def rm:Fn:=l5 8
def D0:SM:=(aU (az [ar [ar [ar [Un eE (aj 1)],ar []],az [az [af eC,af hS]]],ar [ar [ar [],ar [Un eE (aj 2)]],az [az [af dN,af mj]]],ar [ar [ar [],ar []],az []],ar [ar [ar [Un eE (aj 1),Un eE (aj 1)],ar [Un eE (aj 1)]],az [az [af eC,af hS],az [af eC,af hS],az [af dN,af hS]]],ar [ar [ar [Un eE (aj 2),Un eE (aj 16)],ar [Un eE (aj 17),Un eE (aj 1)]],az [az [af eC,af mj,af yL],az [af dN,af ux],az [af dN,af hS]]],ar [ar [ar [],ar [Un eE (aj 1),Un eE (aj 2)]],az [az [af dN,af hS,af mj]]],ar [ar [ar [],ar [Un eE (aj 1)]],az [az [af eC],az [af dN,af hS]]],ar [ar [ar [Un eE (aj 17)],ar [Un eE (aj 17)]],az [az [af eC],az [af eC,af ux],az [af dN,af ux]]]]))
@[irreducible] def om:Fn:=sl (bz 0 [] 0 D0)
abbrev aqR:=aH d8 [(770,jL),(695,lA)] ak [ax]
def Mg:SM:=(ah (a9 (aC s9 ax ak) (bp (aH dG [] ak [ax])) bx) (aU aqR))
@[irreducible] def vU:Fn:=sl (bz 2 [] 0 Mg)
abbrev aq1:=dP (aC aX (bW jC) (aj 1)) (ao (aF ay) jC (aj 0)) (Un eE (aj 64))
abbrev aq0:=b7 (cJ ba) (b7 (aC aX mz (ar [])) (b7 (aC ef (bW jC) (aj 2)) fq))
abbrev ap6:=ah (a9 aq0 (aU (ar [iH,aq1])) bx) (aU (ar [iH,aB vU [ax,fX]]))
abbrev aq7:=aC aX (ao (aF ay) ak (aj 0)) (ao (aF ay) ax aD)
abbrev aq6:=dP (aC aX bw (aj 1)) (ao (aF ay) ee (aj 0)) (az [])
abbrev aqV:=dP (b7 (aC aX (ao eX (ao fR ak (aj 8)) (aj 2)) (aj 0)) (b7 (aC ef bN aD) fq)) (ao aQ (af xe) (je bN)) (je bN)
abbrev ap2:=ah (aZ 6 aqV) (ah (aZ 7 (jt (mQ (aB om [])) [1,5] (ao (aF ay) ak (aj 1)) [aq7])) (aU (ar [ao aQ (az [az [af cZ,cq]]) aq6,bN])))
def Mi:SM:=(ah (aZ 4 (ao eX ak (aj 4))) (ah (aZ 0 (ao fR ak (aj 4))) (ah (a9 (aC ef bw (aj 2)) (ah (aZ 5 (ao eX ak (bW ax))) ap2) bx) (ah (cX [8,9] (ao (aF ay) (aB om []) (ao eX ak (aj 8)))) (ah (cX [10,11] fX) ap6)))))
@[irreducible] def uj:Fn:=sl (bz 4 [] 8 Mi)
abbrev aqT:=ao aQ (ao aQ (af pA) ax) (je aD)
def Me:SM:=(ah (aZ 2 (ao eX ak (aj 3))) (aU (ar [dP (b7 (aC aX (ao eX (ao fR ak (aj 3)) (aj 2)) (aj 0)) (b7 (aC ef aD (aj 2)) fq)) aqT (je aD),aD])))
@[irreducible] def l6:Fn:=sl (bz 2 [] 1 Me)
abbrev aqS:=aB l6 [ao fR ak (aj 2),af tl]
abbrev aqA:=aC aX (ao eX (ao fR ak (aj 100)) (aj 3)) (aj 0)
abbrev aqz:=aU (ar [az [iH,fX],az [ar [mz,Loc 13]]])
abbrev aqs:=aU (ar [ao aQ (ao aQ (az [iH]) cq) bw,az [ar [mz,bN,ee]]])
abbrev aql:=cX [9,10] (ao (aF ay) (az [ar [af uF,aj 17],ar [af yU,aj 19]]) (ao wX ba (aj 3)))
def Mh:SM:=(ah (aZ 3 (ao eX ak (aj 8))) (ah (aZ 0 (ao fR ak (aj 8))) (ah (a9 (aC ef ba (aj 3)) (ah (cX [4,5] (aB uj [ak,ax,aD,aW (.bool W)])) (aU (ar [ao aQ (az [ao (aF ay) (az [af hX,af uD,af fP]) ba]) bw,az [ar [ao aQ (aj 2) ba,bN],ar [aj 11]]]))) bx) (ah (a9 (aC ef ba (aj 5)) (ah (cX [6,7] (ar [az [],aj 0])) (ah (a9 (aC aX (ao eX ak (aj 2)) (aj 0)) (ah (cX [8,7] aqS) (aZ 6 (az [fX]))) bx) (ah (cX [4,5] (aB uj [ao fR ak (aj 16),ax,aD,aW (.bool LB)])) (ah aql aqs)))) bx) (ah (a9 (aC aX ba (aj 5)) (ah (aZ 11 (az [ar [af uE,aj 16,af xc],ar [af BY,aj 18,af xc],ar [af B1,aj 210,af xc],ar [af yV,aj 35,af zT]])) (ah (aZ 11 (ao aQ jC (az [ar [af yW,aj 36,af zT],ar [af wc,aj 64521,af tf],ar [af B2,aj 64520,af tf]]))) (ah (cX [9,10,12] (ao (aF ay) (ao aQ jC (az [ar [af yX,aj 64525,af xb]])) (ao eX ak (aj 8)))) (ah (cX [8,13] (aB l6 [ao fR ak (aj 8),Loc 12])) aqz)))) bx) (ah (a9 (aC aX ba (aj 6)) (ah (aZ 11 (az [ar [af BZ,aj 37],ar [af B0,aj 38],ar [af yY,aj 64528],ar [af B3,aj 64527]])) (ah (cX [9,10] (ao (aF ay) (ao aQ jC (az [ar [af B4,aj 64529]])) (ao eX ak (aj 5)))) (ah (a9 (aC aX (ao eX (ao fR ak (aj 5)) (aj 3)) (aj 0)) (aU (ar [az [iH],az [ar [mz,aj 0]]])) bx) (ah (cX [8,13] (aB l6 [ao fR ak (aj 15),af tl])) aqz)))) bx) (ah (cX [8,13] aqS) (ah (a9 (aC aX (ao eX ak (aj 2)) (aj 0)) (ah (cX [14,15] (aB l6 [ao fR ak (aj 16),af tl])) (ah (a9 aqA (aU (ar [az [af we],az [ar [aj 64526,aj 0,aj 0]]])) bx) (aU (ar [az [af we,fX,Loc 14],az [ar [aj 64526,Loc 13,Loc 15]]])))) bx) (ah (cX [14,16] (aB l6 [ao fR ak (aj 16),af xb])) (ah (a9 aqA (aU (ar [az [af qf,Loc 14],az [ar [aj 64524,Loc 16,aj 0]]])) bx) (aU (ar [az [af qf,fX,Loc 14],az [ar [aj 64524,Loc 16,Loc 13]]]))))))))))))
@[irreducible] def yB:Fn:=sl (bz 3 [] 14 Mh)
def D1:SM:=(ah (aZ 0 (af cI)) (ah (aZ 1 (af zU)) (ah (aZ 2 (az [ar [az [af hX,az [af eC,af I2,af hS],af gA],ak,aj 1]])) (ah (aZ 2 (ao aQ aD (az [ar [az [af uF,az [af eC,af I2,af hS]],ak,aj 1]]))) (ah (aZ 2 (ao aQ aD (az [ar [az [af uE,af qF],af Se,aj 1],ar [az [af yV,af qF],af Sf,aj 1]]))) (ah (aZ 2 (ao aQ aD (az [ar [az [af yY,af qF],af xf,aj 1],ar [az [af wc,af qF],af Sd,aj 1]]))) (ah (aZ 2 (ao aQ aD (az [ar [az [af yX,af qF],af C0,aj 1]]))) (ah (aZ 2 (ao aQ aD (az [ar [az [af qf,af pq,af qF],af C0,aj 2]]))) (ah (aZ 2 (ao aQ aD (az [ar [az [af qf,af qF,af pq],af xf,aj 1],ar [az [af uF,af qF],af xf,aj 1]]))) (ah (aZ 2 (ao aQ aD (az [ar [az [af hX,az [af cZ,af qF],af gA],af I1,aj 3]]))) (ah (aZ 2 (ao aQ aD (az [ar [az [af uE],ak,aj 0],ar [az [af wc],ak,aj 0]]))) (ah (aZ 2 (ao aQ aD (az [ar [az [af uE,az [af rS]],ak,aj 1],ar [az [af we,af pq],ak,aj 1],ar [az [af qf],ak,aj 0]]))) (ah (aZ 2 (ao aQ aD (az [ar [az [af qf,az [af rS]],ak,aj 1],ar [az [af yW,af R7],ak,aj 1]]))) (ah (aZ 2 (ao aQ aD (az [ar [az [af uE,af R8],ax,aj 1]]))) (ah (aZ 2 (ao aQ aD (az [ar [az [af hX,az [af cZ,af pq],az [af eC,af mj,af mj],af gA],af nO,aj 1]]))) (ah (aZ 2 (ao aQ aD (az [ar [az [af uD,az [af cZ,af R9],az [af dN,af hS],af gA],af C1,aj 1]]))) (ah (aZ 2 (ao aQ aD (az [ar [az [af uF,az [af cZ,af pq],az [af cZ,af pq]],ak,aj 5]]))) (ah (aZ 2 (ao aQ aD (az [ar [az [af hX,az [af dN,af hS],az [af eC,af hS],af gA],ak,aj 5]]))) (ah (aZ 2 (ao aQ aD (az [ar [az [af hX,az [af eC,af hS],az [af cZ,af pq],af gA],ak,aj 5]]))) (ah (aZ 2 (ao aQ aD (az [ar [az [af hX,az [af cZ,af pq,af pq],af gA],ak,aj 4],ar [az [af hX,az [af cZ],af gA],ak,aj 1]]))) (ah (aZ 2 (ao aQ aD (az [ar [az [af fP,az [af dN,af I2,af hS],af qe,af gA],ak,aj 3],ar [az [af IX],af IX,Un eE (aj 1)]]))) (ah (aZ 2 (ao aQ aD (az [ar [az [af jR,az [af dN,af yM]],af yM,Un eE (aj 1)],ar [az [af IZ],af IZ,Un eE (aj 1)]]))) (ah (aZ 2 (ao aQ aD (az [ar [az [af hX,az [af dN,af v9],af gA],af v9,Un eE (aj 1)]]))) (aU (ao aQ aD (az [ar [az [af IY],af IY,Un eE (aj 1)]]))))))))))))))))))))))))))
@[irreducible] def yC:Fn:=sl (bz 0 [] 3 D1)
abbrev aqQ:=bp (aH lN [] (Loc 12) [Loc 15])
abbrev aqP:=aZ 21 (ao (aF ay) (Loc 16) (aj 0))
abbrev aqI:=ao aQ (aj 1) (ao eX (aB oo [ax]) (aj 5))
abbrev aqy:=cX [14,15] (aB yB [ao fR aD (aj 2),bN,bW ba])
abbrev aqq:=cX [14,19,20] (ao (aF ay) (Loc 18) (ao eX (aB oo [ax]) (bW (Loc 18))))
abbrev arc:=gf (aC eN (au eB [770] [] bw) bN) lU
abbrev aqf:=gf (aC eN (aB oq [bw,lR [],Loc 17]) (ao aQ (Loc 12) (az [ar [aj 11]]))) arc
abbrev aqd:=tG (.tp [6,7]) ba (ah (bp (aH dG [] (au eB [770] [] bw) [ee])) (mN (ao (aF ay) (au iF [770] [] bw) (af cZ)) (ao aQ (af xe) (je cq)) cq))
abbrev aqa:=ao (aF ay) (ao (aF ay) (aB om []) (ao eX (ao fR ax (ao tc (aj 8) ak)) (aj 8))) (aj 0)
abbrev ap9:=bp (aB oq [bw,lR [],ao aQ (Loc 17) (aB rm [ao aQ (az [af rS]) (Loc 14),Loc 16])])
abbrev ap4:=kz ay (.tp [8,9]) (az [ar [af gq,af xc],ar [af c5,af tl],ar [af gv,af zT],ar [af gS,af xb],ar [af gw,af tf]]) (pJ (.nm 10) (aj 2) (mN (ao (aF ay) (au iF [770] [] bw) fX) (ao aQ (ao aQ (af pA) iH) (je mz)) mz))
abbrev ap3:=aU (eY aX (az [au gT [] [144,164,183] (Loc 22),au bX [355,522] [183] (Loc 22),Loc 20]) (az [Loc 19,aj 1,Un eE (aj 1)]))
abbrev ap0:=aU (mM (eY aX (az [au gT [] [144,164,183] (Loc 22),au dq [202,230,355] [164] (Loc 22),au da [202,230,355] [164] (Loc 22)]) (az [Loc 19,aj 1,ao aQ (ao aQ (Loc 21) (aj 2)) (Loc 20)])) (eY qz (Loc 20) (aj 0)))
abbrev aq5:=aC aX (ao (aF ay) (Loc 15) (Un eE (aj 1))) (ar [aj 11])
abbrev aqY:=dP (aC aX (ao (aF ay) (Loc 14) (aj 0)) (af fP)) (az [az [af oD]]) (az [])
abbrev apZ:=a9 (aC aX (ao eX aD (aj 2)) (aj 1)) (aZ 14 (az [ao aQ (Loc 14) aqY])) (a9 aq5 (aZ 14 (ao aQ (Loc 14) (az [af gA]))) bx)
abbrev aqX:=ah (aZ 2 (aB oo [ax])) (ah aqy (ah aqQ (ah apZ (bp (aH lN [] jC [Loc 14])))))
def DZ:SM:=(ah (aZ 1 (gc [ak,aj 0])) (ah (aZ 2 (aB oo [ax])) (ah (aZ 3 (jt (SrcR (ao aQ (aj 1) (ao eX (ao fR aD (aj 512)) (aj 3)))) [2] aqa [])) (ah (aZ 4 (aB AY [])) (ah (aZ 5 (DD ba)) (ah aqd (ah ap4 (ah (aZ 11 (gc [])) (ah (aZ 12 (gc [])) (ah (pJ (.nm 13) aqI aqX) (ah (aZ 16 (gc [aj 0])) (ah (aZ 17 (aB rm [jC,Loc 16])) (ah (a9 aqf (aU (aW (.bool LB))) bx) (ah (aZ 18 (aB yC [])) (ah aqq (ah aqP (ah (AG ap9 [⟨[164],[144,183],22,ap0⟩,⟨[183],[144,164],22,ap3⟩]) (aU (aW (.bool LB))))))))))))))))))))
@[irreducible] def pZ:Fn:=sl (bz 1 [] 22 DZ)
set_option genCtorIdx true in
inductive So where|id|int|word
set_option genCtorIdx true in
inductive Fm where|f0|f1|f2|f3|f4|f5|f6|f7|f8|f9|f10
structure Wd where
 sort:So:=.word
 txt:Str
 val:Int:=0
 sg:Bool:=LB
 ln:Bool:=LB
 kd:Option Int:=LA
 gn:Bool:=LB
 iY:Bool:=LB
 nA:Bool:=LB
 code:Option Nat:=LA
 cH:Fm:=.f0
 oQ:Bool:=LB
noncomputable def So.s:So->Str | .id=>jQ | .int=>qj | .word=>hY
noncomputable def So.v:So->Str->Int->O | .int,_,v=>.int v | .id,s,_=>.str s | .word,s,_=>.str s
noncomputable def nW:So->Bool | .word=>LB | .id=>W | .int=>W
noncomputable def eI:So->Bool | .word=>LB | .id=>LB | .int=>W
noncomputable def eD:So->Bool | .word=>LB | .id=>W | .int=>LB
def Af(w:Wd)(r c:Nat):O:=.obj 202 [(gz,.str w.sort.s),(cS,.str w.txt),(qc,w.sort.v w.txt w.val),(dq,.int r),(da,.int c)]
def Zv(is:List O)(r c:Nat):O:=.obj 230 [(bZ,.lst is),(dq,.int r),(da,.int c)]
def n9(a:Str)(r c:Nat):List (Str×O):=[(gT,.str a),(dq,.int r),(da,.int c)]
def zr(a:Str)(r:Nat):List (Str×O):=[(gT,.str a),(bX,.int r)]
noncomputable def oN:Option Nat->Nat|some n=>n|none=>0
noncomputable def oA:Option Nat->O|some n=>.int n|none=>.none
noncomputable def zH:Option Int->O|some n=>.int n|none=>.none
noncomputable def oY{a:Type}:Option a->Bool|some _=>LB|none=>W
def Fm.v:Fm->Str
 | .f0=>hW | .f1=>hX | .f2=>gq | .f3=>ow | .f4=>gv | .f5=>c5 | .f6=>wa | .f7=>gw | .f8=>wb | .f9=>gS | .f10=>rI
section
variable(w:Wd)(H:List MO)(K:bj)(X:KX)
def wW(p:Prop):Prop:=cond (nW w.sort) True p
abbrev aqH:=eY (dh ay) (ao (aF ay) ak (aj 0)) (af zV)
noncomputable def wL:List Prop:=[bz 1 [] 0 DU [.str w.txt] H K X,bz 1 [] 1 DY [.str w.txt] H K X,wW w (bz 1 [] 0 DW [.str w.txt] H K X),wW w (bz 1 [] 4 DS [.str w.txt] H K X),wW w (bz 1 [] 0 DT [.int (oN w.code)] H K X),wW w (cond (oY w.code) (bz 1 [] 0 DV [.str w.txt] H K X) True),wW w (oP (dh ay (.str w.txt) yH H) λb=>K (.bool b) H),wW w (oP (dh ay (.str w.txt) (.tup [.str qe,.str gA]) H) λb=>K (.bool b) H),cond (eI w.sort) (aqH [Y (.str w.txt)] H K X) True,K (.bool (bf w.txt.cps.toList 1000)) H,(eY (dh ay) (ao (aF ay) ak (aj 0)) (af w9)) [Y (.str w.txt)] H K X,cond (eI w.sort) ((ToInt nz ak) [Y (.str w.txt)] H K X) True,cond (eI w.sort) True ((eY aX (ao (aF ay) ak (aj 0)) (af pA)) [Y (.str w.txt)] H K X)]
end
noncomputable def wR(w:Wd)(H:List MO)(K:bj)(_:KX):List Prop:=[K (.bool w.ln) H,K (zH w.kd) H,wW w (K (.bool w.gn) H),wW w (K (oA w.code) H),wW w (K (.str w.cH.v) H),wW w (cond (oY w.code) (K (.bool w.oQ) H) True),wW w (K (.bool w.iY) H),wW w (K (.bool w.nA) H),cond (eI w.sort) (K (.bool w.sg) H) True,K (.bool W) H,K (.bool (eI w.sort)) H,cond (eI w.sort) (K (.int w.val) H) True,cond (eI w.sort) True (K (.bool (eD w.sort)) H)]
def fo(w:Wd):Prop:=wL w=wR w
abbrev OW:={w:Wd // fo w}
noncomputable def b8(w:Wd)(h:wL w=wR w):OW:=⟨w,h⟩
theorem cT(h:b=W)(k:p):cP b p q:=by rw[h];exact k
theorem cF(h:b=LB)(k:q):cP b p q:=by rw[h];exact k
theorem q9{a b:Prop}(h:a=b)(x:b):a:=h▸x
section
variable{w:Wd}{H:List MO}{K:bj}{X:KX}
theorem lL(h:fo w)(H K X)(n:Nat):(wL w H K X).getD n True=(wR w H K X).getD n True:=by rw[show wL w=wR w from h]
theorem Es(hb:b=W)(h:cond b p True=cond b q True):p=q:=by rw[hb]at h;exact h
theorem xA(a:nW w.sort=LB)(h:wW w p=wW w q):p=q:=by unfold wW at h;rw[a]at h;exact h
abbrev X0:KX:=λ_ _ _=>True
theorem fo.ln(h:fo w):yy [.str w.txt] H K X=K (.bool w.ln) H:=by unfold yy;rw[fU];exact lL h H K X 0
theorem fo.kd(h:fo w):BF [.str w.txt] H K X=K (zH w.kd) H:=by unfold BF;rw[fU];exact lL h H K X 1
theorem fo.gn(h:fo w)(s:nW w.sort=LB):yA [.str w.txt] H K X=K (.bool w.gn) H:=by unfold yA;rw[fU];exact xA s (lL h H K X 2)
theorem fo.code(h:fo w)(s:nW w.sort=LB):vS [.str w.txt] H K X=K (oA w.code) H:=by unfold vS;rw[fU];exact xA s (lL h H K X 3)
theorem fo.cH(h:fo w)(s:nW w.sort=LB):BD [.int (oN w.code)] H K X=K (.str w.cH.v) H:=by unfold BD;rw[fU];exact xA s (lL h H K X 4)
theorem fo.oQ(h:fo w)(s:nW w.sort=LB)(c:oY w.code=W):yz [.str w.txt] H K X=K (.bool w.oQ) H:=by unfold yz;rw[fU];exact Es c (xA s (lL h H K X 5))
theorem DL{a b:Bool}(h:O.bool a=O.bool b):a=b:=by cases h with|refl=>rfl
theorem Qa(h:(oP o λc=>(.bool c:O)= .bool b)=((.bool b:O)= .bool b)):o=Y b:=by
 cases o with
 |none=>exact(cast h.symm rfl:False).elim
 |some c=>cases (cast h.symm rfl:(.bool c:O)= .bool b);rfl
theorem fo.iY(h:fo w)(s:nW w.sort=LB):dh ay (.str w.txt) yH H=Y w.iY:=Qa (xA s (lL h H (λv _=>v = .bool w.iY) X0 6))
theorem fo.nA(h:fo w)(s:nW w.sort=LB):dh ay (.str w.txt) (.tup [.str qe,.str gA]) H=Y w.nA:=Qa (xA s (lL h H (λv _=>v = .bool w.nA) X0 7))
theorem fo.sgn(h:fo w)(s:eI w.sort=W):aqH [Y (.str w.txt)] H K X=K (.bool w.sg) H:=Es s (lL h H K X 8)
theorem fo.agu(h:fo w)(s:eI w.sort=W)(H:List MO):∃v,aF ay (.str w.txt) (.int 0) H=Y v/\dh ay v (.str zV) H=Y w.sg:=by
 have e:=cast (h.sgn (H:=H) (K:=λv _=>v = .bool w.sg) (X:=X0) s).symm rfl;have e:oP (aF ay (.str w.txt) (.int 0) H) (λx=>oP (dh ay x (.str zV) H) λb=>(.bool b:O)= .bool w.sg):=e;refine oK e λv a e=>oK e λb hb e=>?_;have f:=DL e;clear e;subst f;exact⟨v,a,hb⟩
theorem fo.len(h:fo w):bf w.txt.cps.toList 1000=W:=by
 have:=lL h [] (λv _=>v = .bool W) X0 9;have this:((.bool (bf w.txt.cps.toList 1000):O)= .bool W)=((.bool W:O)= .bool W):=this;cases q:bf w.txt.cps.toList 1000 with
 |true=>rfl
 |false=>rw[q]at this;cases (this.symm▸rfl:(.bool LB:O)= .bool W)
theorem Z9(hb:b=LB)(h:cond b True p=cond b True q):p=q:=by rw[hb]at h;exact h
theorem fo.dig(h:fo w)(H:List MO):∃v,aF ay (.str w.txt) (.int 0) H=Y v/\dh ay v (.str w9) H=Y (eI w.sort):=by
 have e:=cast (lL h H (λv _=>v = .bool (eI w.sort)) X0 10).symm rfl;have e:oP (aF ay (.str w.txt) (.int 0) H) (λx=>oP (dh ay x (.str w9) H) λb=>(.bool b:O)= .bool (eI w.sort)):=e;refine oK e λv a e=>oK e λb hb e=>?_;have f:=DL e;clear e;subst f;exact⟨v,a,hb⟩
theorem fo.int(h:fo w)(s:eI w.sort=W):look w.txt nz=Y w.val:=by
 have e:=cast (Es s (lL h [] (λv _=>v = .int w.val) X0 11)).symm rfl;have e:oP (look w.txt nz) (λi=>(.int i:O)= .int w.val):=e;refine oK e λv a e=>?_;cases e;exact a
theorem fo.dol(h:fo w)(s:eI w.sort=LB)(j:aF ay (.str w.txt) (.int 0) H=Y v):aX v (.str pA) H=Y (eD w.sort):=by
 have e:=cast (Z9 s (lL h H (λv _=>v = .bool (eD w.sort)) X0 12)).symm rfl;have e:oP (aF ay (.str w.txt) (.int 0) H) (λx=>oP (aX x (.str pA) H) λb=>(.bool b:O)= .bool (eD w.sort)):=e;rw[j]at e;refine oK e λl a e2=>?_;have f:=LC a;clear a;subst f;refine oK e2 λb hb i=>?_;have f:=DL i;clear i;subst f;exact hb
end
inductive Itm where
 |tok (w:OW) (r c:Nat)
 |br (is:List Itm) (r c:Nat)
mutual
noncomputable def a8:Itm->O
 | .tok w r c=>Af w.1 r c
 | .br is r c=>Zv (aL is) r c
noncomputable def aL:List Itm->List O
 | []=>[]
 |t::r=>a8 t::aL r
end
mutual
noncomputable def iM:Itm->Bool
 | .tok ..=>W
 | .br is _ _=>bf is 2000&&iN is
noncomputable def iN:List Itm->Bool
 | []=>W
 |t::r=>iM t&&iN r
end
noncomputable def Itm.r:Itm->Nat | .tok _ r _=>r | .br _ r _=>r
noncomputable def Itm.c:Itm->Nat | .tok _ _ c=>c | .br _ _ c=>c
noncomputable def Cf:Itm->Bool | .br ..=>W | .tok ..=>LB
theorem t5:∀is:List Itm,aL is=is.map a8:=by
 intro is;induction is with
 |nil=>exact rfl
 |cons t r a=>exact congrArg (a8 t :: ·) (a)
theorem kP(is:List Itm):(aL is).length=is.length:=by rw[t5,QC]
theorem Ez(is:List Itm)(k:Nat):(aL is)[k]?=(is[k]?).map a8:=by rw[t5,abI]
structure Ps (is:List Itm) (k:Nat) (t:List Itm):Prop where
 d:is.drop k=t
 b:k<=is.length
 s:is.length<=2000
 m:iN is=W
theorem Tj:∀{is:List Itm}{it:Itm},iN is=W->it∈is->iM it=W
 |_::r,_,h,m=>by
  have h:(iM _&&iN r)=W:=h;rw[LM]at h;cases m with|head=>exact h.1|tail _ m=>exact Tj h.2 m
theorem To(h:iM (.br is r c)=W):is.length<=2000/\iN is=W:=by
 have h:(bf is 2000&&iN is)=W:=h;rw[LM]at h;exact⟨eg h.1,h.2⟩
section
variable{is:List Itm}{k:Nat}{it:Itm}{r t:List Itm}
theorem Ps.nx(h:Ps is k (it::r)):Ps is (k+1) r :=
 have l:k < is.length:=aoy λg=>by have:=h.d;rw[amO g]at this;cases this
 ⟨by rw[ako,h.d];rfl,l,h.s,h.m⟩
theorem Ps.lt(h:Ps is k (it::r)):k < is.length:=h.nx.b
theorem Ps.eq(h:Ps is k []):k=is.length:=akM h.b (ane.mp h.d)
theorem Ps.at(h:Ps is k (it::r)):is[k]?=Y it:=by
 rw[←akP,h.d];rfl
theorem Ps.len(h:Ps is k t):is.length=k+t.length:=by
 have:=amu (l:=is) (i:=k);rw[h.d]at this;rw[this];exact(Nat.add_sub_cancel' h.b).symm
theorem Ps.sm(h:Ps is k (it::r)):iM it=W:=Tj h.m (aj4 h.at)
theorem Ps.of{r c:Nat}(h:iM (.br is r c)=W):Ps is 0 is:=⟨rfl,aeN _,(To h).1,(To h).2⟩
theorem ER(h:is.length<=2000):fits (aL is)=W:=cC (by rw[kP];lia)
theorem qu(h:Ps is k t)(H:List MO):iZ (.lst (aL is)) H=Y (O.int is.length):=by
 show alt (gd (fits (aL is)) (Y (O.int (aL is).length))) _=_;rw[ER h.s,kP];rfl
theorem PH(h:xs[n]?=Y v)(b:n < 4611686018427387904):idx xs (.int (n:Nat))=Y v:=by
 have lt:n < xs.length:=(Sa.mp h).1;show gd (VE n 4611686018427387904) ((aeO (n:Int) xs.length).bind λj=>xs[j]?)=_;have s:aeO (n:Int) xs.length=Y n:=by
  unfold aeO;rw[QE (Int.not_lt.mpr (akl n))];dsimp only;rw[VD (by rw[LM,ajJ,ajJ];exact⟨akl n,ahH.mpr lt⟩)];rfl
 rw[blt_eq,VW b,s];exact h
theorem uW(h:xs[n]?=Y v)(b:n < 4611686018427387904)(H:List MO):aF bd (.lst xs) (.int (n:Nat)) H=Y v:=by
 show alt LA (alt (idx xs (.int (n:Nat))) _)=_;rw[PH h b];rfl
theorem HL(h:H[k]?=Y (.lst xs))(hm:xs[n]?=Y v)(b:n < 4611686018427387904):aF bd (.ref k) (.int (n:Nat)) H=Y v:=by
 unfold aF;rw[show listOf H (.ref k)=Y xs by show H[k]?.bind mC=_;rw[h];rfl];show alt LA (alt (idx xs (.int (n:Nat))) _)=_;rw[PH hm b];rfl
theorem nv(h:Ps is k (it::r))(H:List MO):aF ay (.lst (aL is)) (.int k) H=Y (a8 it) :=uW (by rw[Ez,h.at];rfl) (LR h.lt (LI h.s (by decide))) H
theorem RU(h:Ps is k (it::r)):decide ((k:Int)< (is.length:Int))=W:=VW (ahH.mpr h.lt)
theorem IS(h:Ps is k []):decide ((k:Int)< (is.length:Int))=LB:=aer λq=>alR _ (aeI (ajS h.eq.symm) (ahH.mp q))
end
theorem HI(t:Itm)(H:List MO):zL ji (a8 t) (.gl 230) H=Y (Cf t):=by cases t<;>rfl
theorem agf(s:So):(s.s == qj)=eI s:=by cases s<;>rfl
theorem SV(s:So):(s.s == jQ)=eD s:=by cases s<;>rfl
set_option genCtorIdx true in
inductive Res (α:Type) where
 |stuck|ok (v:α)|bad (why:Str) (r c:Nat)|left (why:Str) (r:Nat)
noncomputable def Res.bind{a β:Type}(x:Res a)(f:a->Res β):Res β:=match x with
 | .stuck=>.stuck | .ok v=>f v | .bad w r c=>.bad w r c | .left w r=>.left w r
noncomputable def gk{α:Type}(b:Bool)(x:Res α):Res α:=cond b x .stuck
def Up(a:List Nat)(H G:List MO):Prop:=∀k m,H[k]?=Y m->bJ k a=LB->G[k]?=Y m
abbrev Le:=Up []
section
variable{ps:List Nat}{H G F:List MO}{m:MO}{k:Nat}
theorem Up.r:Up ps H H:=λ_ _ h _=>h
theorem Up.t(a:Up ps H G)(b:Up ps G F):Up ps H F:=λk m h n=>b k m (a k m h n) n
theorem Le.u(a:Le H G):Up ps H G:=λk m h _=>a k m h rfl
theorem Le.g(a:Le H G)(h:H[k]?=Y m):G[k]?=Y m:=a k m h rfl
theorem Le.n(H:List MO)(m:MO):Le H (H++[m]):=λk x h _=>by
 rw[ajA (Sa.mp h).1];exact h
theorem Up.nn(a:Up ps H G)(m:MO):Up ps H (G++[m]):=a.t (Le.n G m).u
theorem Up.st(a:Up ps H G)(h:H[k]?=LA)(m:MO):Up ps H (G.set k m):=λj x e n=>by
 rw[WC λq=>by rw[q]at h;rw[h]at e;exact bR e];exact a j x e n
theorem Le.st(a:Le H G)(h:H[k]?=LA)(m:MO):Le H (G.set k m):=Up.st a h m
theorem dW(h:G[k]?=Y F')(m:MO):(G.set k m)[k]?=Y m:=by
 rw[akq (Sa.mp h).1]
theorem eG(H:List MO)(m:MO):(H++[m])[H.length]?=Y m:=by simp
theorem jE(H:List MO):H[H.length]?=LA:=by simp
theorem qG(H:List MO)(m n:MO):(H++[m]).set H.length n=H++[n]:=by simp
end
def dY{a:Type}(b es:List Nat)(H:List MO)(K:a->List MO->Prop)(X:KX)(x:Res a):Prop:=match x with
 | .stuck=>False
 | .ok v=>∀G,Up b H G->K v G
 | .bad w r c=>∀G,Up es H G->X 164 (n9 w r c) G
 | .left w r=>∀G,Up es H G->X 183 (zr w r) G
abbrev jZ{b:Type}(a:List Nat)(H:List MO)(K:b->List MO->Prop)(X:KX)(x:Res b):Prop:=dY a a H K X x
abbrev Out{a:Type}(H:List MO)(K:a->List MO->Prop)(X:KX)(x:Res a):Prop:=dY [] [] H K X x
abbrev gI{a:Type}(s:Nat)(H:List MO)(K:a->List MO->Prop)(X:KX)(x:Res a):Prop:=dY [s+2,s+3] [] H K X x
section
variable{α β:Type}{ps qs es fs:List Nat}{H G:List MO}{K:α->List MO->Prop}{X:KX}{x:Res α}
theorem Up.sub(h:Up qs H G)(s:∀k,bJ k ps=LB->bJ k qs=LB):Up ps H G:=λk m e n=>h k m e (s k n)
theorem dY.sub(h:dY ps es H K X x)(e:Le H G):dY ps es G K X x:=by
 cases x with
 |stuck=>exact h
 |ok v=>exactλF f=>h F (e.u.t f)
 |bad w r c=>exactλF f=>h F (e.u.t f)
 |left w r=>exactλF f=>h F (e.u.t f)
theorem dY.xV{K:β->List MO->Prop}{f:α->Res β}{a:α->List MO->Prop}(h:dY ps es H K X (x.bind f))(le:∀F,Up fs G F->Up es H F)(k:∀v F,Up qs G F->dY ps es H K X (f v)->a v F):dY qs fs G a X x:=by
 cases x with
 |stuck=>exact h
 |ok v=>exactλF e=>k v F e h
 |bad w r c=>exactλF e=>h F (le F e)
 |left w r=>exactλF e=>h F (le F e)
theorem dY.Y8{K:β->List MO->Prop}{f:α->Res β}{a:α->List MO->Prop}(h:dY ps es H K X (x.bind f))(le:Up es H G)(s:∀k,bJ k es=LB->bJ k qs=LB)(k:∀v F,Up qs G F->dY ps es H K X (f v)->a v F):jZ qs G a X x:=h.xV (λF e=>le.t (e.sub s)) k
theorem dY.bd{K:β->List MO->Prop}{f:α->Res β}{a:α->List MO->Prop}(h:dY ps es H K X (x.bind f))(le:Up es H G)(k:∀v F,Le G F->dY ps es H K X (f v)->a v F):Out G a X x:=h.xV (λF e=>le.t (Le.u e)) k
theorem dY.bc{b:Bool}{y:Res α}{G:Prop}(h:dY ps es H K X (cond b x y))(k:b=W->dY ps es H K X x->G)(k2:b=LB->dY ps es H K X y->G):G:=by
 induction b using cB with
 |true=>exact k rfl h
 |false=>exact k2 rfl h
theorem dY.gr(h:dY ps es H K X (gk b x)):b=W/\dY ps es H K X x:=by
 cases b with|true=>exact⟨rfl,h⟩|false=>exact h.elim
end
theorem Dl{b:Type}(m:b->Nat)(I:b->En->List MO->Prop)(st:∀i e G (go:En->List MO->Prop),(∀j e' a,m j < m i->I j e' a->go e' a)->I i e G->T e G (λg H=>cP g (B e H (oU go K) X) (K .next e H)) (xE X e))(i:b)(hm:m i < 3000)(h:I i e G):iq T B e G K X:=by
 have A:∀n i e G,m i < n->I i e G->xB T B K X n e G:=by
  intro n;induction n with
  |zero=>intro i e G h;exact absurd h (akf _)
  |succ n l=>intro i e G hm h;exact st i e G _ (λj e' a lt f=>l j e' a (LR lt (ajK hm)) f) h
 rw[Aj];exact A 3000 i e G hm h
section
variable{K:bj}{X:KX}{H:List MO}
theorem CY(h:(bJ C es&&bf fs 900)=W): mF n cs es (.ref H.length) v (H++[.exc C fs])=Y (H++[.exc C (fT n v fs)]):=by
 show alt (((H++[MO.exc C fs])[H.length]?).bind _ |>.bind _) (aol (((H++[MO.exc C fs])[H.length]?).bind _) _)=_;rw[eG];show alt LA (gd (bJ C es&&bf fs 900) (Y ((H++[MO.exc C fs]).set H.length _)))=_;rw[h,qG];rfl
theorem abd(xs:List O)(h:(bJ C fw&&bf xs 100)=W): excIn fw (.ref H.length::xs) (H++[.exc C fs])=Y (H++[.exc C fs]):=by
 show aol (((H++[MO.exc C fs])[H.length]?).bind _) _=_;rw[eG];show gd (bJ C fw&&bf xs 100) (Y ((H++[MO.exc C fs]).set H.length _))=_;rw[h,qG];rfl
theorem Sm(h:(bJ C fw&&oZ fs)=W):Sl fw (.ref H.length) (H++[.exc C fs])=Y (H.length,C,fs):=by
 show aol (((H++[MO.exc C fs])[H.length]?).bind _) _=_;rw[eG];show gd (bJ C fw&&oZ fs) _=_;rw[h];rfl
theorem fun1(h:b (some x::eV m) H (eA K) λC fs _ H=>X C fs H):sl (bz 1 [] m b) [x] H K X:=by rw[fU];exact h
theorem fun2(h:b (some x::some y::eV m) H (eA K) λC fs _ H=>X C fs H):sl (bz 2 [] m b) [x,y] H K X:=by rw[fU];exact h
theorem j5(h:b (some x::some y::some z::eV m) H (eA K) λC fs _ H=>X C fs H):sl (bz 3 [] m b) [x,y,z] H K X:=by rw[fU];exact h
theorem p5(h:b (some x::some y::some z::some u::eV m) H (eA K) λC fs _ H=>X C fs H):sl (bz 4 [] m b) [x,y,z,u] H K X:=by rw[fU];exact h
theorem abT(h:b (some x::some y::some z::some u::some v::eV m) H (eA K) λC fs _ H=>X C fs H):sl (bz 5 [] m b) [x,y,z,u,v] H K X:=by rw[fU];exact h
theorem EV(h:b (some x::some y::some z::some u::some v::some w::eV m) H (eA K) λC fs _ H=>X C fs H):sl (bz 6 [] m b) [x,y,z,u,v,w] H K X:=by rw[fU];exact h
end
def Ev{b:Type}(a:EM b)(e:En)(H:List MO)(v:b):Prop:=∀K X,K v H->a e H K X
def jI(as:List (EM O))(e:En)(H:List MO)(v:List O):Prop:=∀K X,K v H->Args as e H K X
section
variable{α:Type}{a b c:EM O}{p q r:EM Bool}{e:En}{H:List MO}{x y v:O}{s t:Bool}{i:Nat}
theorem U(h:e[i]?=Y (Y v)):Ev (Loc i) e H v:=λK X k=>oI (a:=v) (by rw[h];rfl) k
theorem aq:Ev (aW v) e H v:=λK X k=>k
theorem bc{b:Bool}{P:Prop}(h:b=W->P)(k:b=LB->P):P:=by cases b with|true=>exact h rfl|false=>exact k rfl
theorem bq{f:O->O->List MO->Option Bool}(j:Ev a e H x)(hb:Ev b e H y)(h:f x y H=Y t):Ev (aC f a b) e H t:=λK X k=>j _ _ (hb _ _ (oI h k))
theorem ua{f:O->O->List MO->Option Bool}(j:Ev a e H x)(hb:Ev b e H y)(h:f x y H=Y t):Ev (eY f a b) e H (.bool t):=λK X k=>j _ _ (hb _ _ (oI h k))
theorem aV{f:O->O->List MO->Option O}(j:Ev a e H x)(hb:Ev b e H y)(h:f x y H=Y v):Ev (ao f a b) e H v:=λK X k=>j _ _ (hb _ _ (oI h k))
theorem Bf(f:Ev a e H x)(hb:Ev b e H y)(h:zL dJ x y H=Y t):Ev (jJ dJ a b) e H (.bool t):=λK X k=>f _ _ (hb _ _ (oI h k))
theorem dy(f:Ev a e H x)(h:iZ x H=Y v):Ev (bW a) e H v:=λK X k=>f _ _ (oI h k)
theorem rj{f:O->Option O}(j:Ev a e H x)(h:f x=Y v):Ev (Un f a) e H v:=λK X k=>j _ _ (oI h k)
theorem cR(f:Ev a e H x)(h:iJ n cs es x H=Y v)(j:CW v=W):Ev (au n cs es a) e H v:=λK X k=>f _ _ (oI h (bI j k))
theorem aa5(f:Ev a e H (.bool t))(q:(!t)=s):Ev (Dy a) e H (.bool s):=by subst q;exactλK X k=>f _ _ k
theorem rh(f:Ev p e H t)(q:(!t)=s):Ev (kD p) e H s:=by subst q;exactλK X k=>f _ _ k
theorem iw(f:Ev a e H x)(h:xu x=Y t):Ev (cJ a) e H t:=λK X k=>f _ _ (oI h k)
theorem jg(f:Ev p e H LB):Ev (b7 p q) e H LB:=λK X k=>f _ _ k
theorem gO(f:Ev p e H W)(hb:Ev q e H t):Ev (b7 p q) e H t:=λK X k=>f _ _ (hb _ _ k)
theorem EI(f:Ev p e H W):Ev (gf p q) e H W:=λK X k=>f _ _ k
theorem mY(f:Ev p e H LB)(hb:Ev q e H t):Ev (gf p q) e H t:=λK X k=>f _ _ (hb _ _ k)
theorem aa2(f:Ev a e H (.bool LB)):Ev (mM a b) e H (.bool LB):=λK X k=>f _ _ k
theorem EG(f:Ev a e H (.bool W))(hb:Ev b e H v):Ev (mM a b) e H v:=λK X k=>f _ _ (hb _ _ k)
theorem Bh(f:Ev a e H (.bool W)):Ev (n5 a b) e H (.bool W):=λK X k=>f _ _ k
theorem yn(f:Ev a e H (.bool LB))(hb:Ev b e H v):Ev (n5 a b) e H v:=λK X k=>f _ _ (hb _ _ k)
theorem rg(f:Ev p e H W)(hb:Ev a e H v):Ev (dP p a b) e H v:=λK X k=>f _ _ (hb _ _ k)
theorem pW(f:Ev p e H LB)(hb:Ev b e H v):Ev (dP p a b) e H v:=λK X k=>f _ _ (hb _ _ k)
theorem aw:jI [] e H []:=λK X k=>k
theorem ai{as:List (EM O)}(f:Ev a e H x)(hb:jI as e H xs):jI (a::as) e H (x::xs):=λK X k=>f _ _ (hb _ _ k)
theorem cA{as:List (EM O)}(f:jI as e H xs)(h:fits xs=W):Ev (ar as) e H (.tup xs):=λK X k=>f _ _ (bI h k)
theorem jh{as:List (EM O)}(f:jI as e H xs)(h:∀K X,K v H->F xs H K X):Ev (aB F as) e H v:=λK X k=>f _ _ (h _ _ k)
theorem ub{as:List (EM O)}(j:Ev a e H x)(hm:lJ n tab x H=Y F)(f:jI as e H xs)(h:∀K X,K v H->F (x::xs) H K X):Ev (aH n tab a as) e H v:=λK X k=>j _ _ (by
 show eP _ _ _;rw[hm];exact f _ _ (h _ _ k))
theorem aa3{as:List (EM O)}(j:Ev a e H x)(hm:lJ n tab x H=LA)(hb:((qO x H).bind λt=>l8 n t pO)=Y m)(f:jI as e H xs)(h:mV m x xs H=Y (v,H)):Ev (aH n tab a as) e H v:=λK X k=>j _ _ (by
 show eP _ _ _;rw[hm];exact oI hb (f _ _ (oI h k)))
theorem Bi(m:Ev a e H x)(h1:Ev lo e H l)(f:Ev hi e H h')(j:Ev st e H s')(w:vh l=Y lo')(z:vh h'=Y hi')(A:vh s'=Y st')(h:wV x lo' hi' st' H=Y v):Ev (lq a lo hi st) e H v:=λK X k=>m _ _ (h1 _ _ (f _ _ (j _ _ (oI w (oI z (oI A (oI h k)))))))
theorem vM{a:EM α}{v w:α}(h:Ev a e H v)(q:v=w):Ev a e H w:=q▸h
theorem d7{as:List (EM O)}{K:bj}(f:jI as e H xs)(h:F xs H K X):aB F as e H K X:=f _ _ h
theorem dR{as:List (EM O)}{K:bj}(j:Ev a e H x)(hm:lJ n tab x H=Y F)(f:jI as e H xs)(h:F (x::xs) H K X):aH n tab a as e H K X:=j _ _ (by
 show eP _ _ _;rw[hm];exact f _ _ h)
variable{A B C:SM}{K:KF}{X:KE}
theorem ct(h:Ev p e H W)(k:ah A C e H K X):ah (a9 p A B) C e H K X:=h _ _ k
theorem zX(h:Ev p e H LB)(k:ah B C e H K X):ah (a9 p A B) C e H K X:=h _ _ k
theorem cu(h:Ev p e H LB)(k:C e H K X):ah (a9 p A bx) C e H K X:=h _ _ k
theorem oH(h:Ev p e H W)(k:A e H K X):a9 p A B e H K X:=h _ _ k
theorem j7(h:Ev p e H LB)(k:B e H K X):a9 p A B e H K X:=h _ _ k
theorem eS(h:Ev m e H v)(k:C (e.set i (Y v)) H K X):ah (aZ i m) C e H K X:=h _ _ k
theorem fK(k:m e H (λv H=>C (e.set i (Y v)) H K X) (xE X e)):ah (aZ i m) C e H K X:=k
theorem i6(h:Ev m e H (.tup xs))(q:nT is xs e=Y e')(k:C e' H K X):ah (cX is m) C e H K X:=h _ _ (oI q k)
theorem iL(k:m e H (λv H=>oP ((aT v).bind λvs=>nT is vs e) λe=>C e H K X) (xE X e)):ah (cX is m) C e H K X:=k
theorem fL(k:m e H (λ_ H=>C e H K X) (xE X e)):ah (bp m) C e H K X:=k
theorem cW(h:Ev m e H v)(k:K (.ret v) e H):aU m e H K X:=h _ _ k
theorem ko(h:Ev m e H v)(k:K (.ret v) e H):ah (aU m) C e H K X:=h _ _ k
theorem zY(k:m e H (λv H=>K (.ret v) e H) (xE X e)):aU m e H K X:=k
theorem xm(k:m e H (λv H=>K (.ret v) e H) (xE X e)):ah (aU m) C e H K X:=k
theorem Ta:mJ B (mJ C K X) X=mJ (ah B C) K X:=funext λfl=>by cases fl<;>rfl
theorem fA(k:ah A (ah B C) e H K X):ah (ah A B) C e H K X:=by
 show A e H (mJ B (mJ C K X) X) X;rw[Ta];exact k
theorem Uu{K:bj}{X:KX}{C:Nat}{f:Str}(h1:bJ C fw=W)(j:bJ C [144,164,183]=W)(h:K .none (H++[.exc C [(gT,.str f)]])):uh [.ref H.length,.str f] (H++[.exc C []]) K X:=by
 have a:(bJ C fw&&bf [O.str f] 100)=W:=by rw[h1];rfl
 have b:(bJ C [144,164,183]&&bf ([]:List (Str×O)) 900)=W:=by rw[j];rfl
 unfold uh;refine fun2 ?_;show oP _ _;refine oI (abd [.str f] a) ?_;show oP _ _;refine oI (CY b) ?_;exact h
theorem adW{K:bj}{X:KX}{f:Str}{r c:Int}(h:K (.ref H.length) (H++[.exc 164 [(gT,.str f),(dq,.int r),(da,.int c)]])):jf [.str f,.int r,.int c] H K X:=by
 unfold jf;rw[fU];show Bk _ _ _ _;unfold Bk;refine p5 ?_;show uh _ _ _ _;refine Uu rfl rfl ?_;show oP _ _;refine oI (CY rfl) ?_;show oP _ _;refine oI (CY rfl) ?_;exact h
theorem adX{K:bj}{X:KX}{f:Str}{r:Int}(h:K (.ref H.length) (H++[.exc 183 [(gT,.str f),(bX,.int r)]])):vH [.str f,.int r] H K X:=by
 unfold vH;rw[fU];show Bz _ _ _ _;unfold Bz;refine j5 ?_;show uh _ _ _ _;refine Uu rfl rfl ?_;show oP _ _;refine oI (CY rfl) ?_;exact h
theorem C2{as:List (EM O)}{f:Str}{r c:Nat}(h:jI as e H [.str f,.int r,.int c])(k:X 164 (n9 f r c) e (H++[.dead])):iP fw (aB jf as) e H K X:=h _ _ (by
 refine adW (oI (Sm rfl) ?_);show X 164 _ e ((H++[_]).set H.length .dead);rw[qG];exact k)
theorem C3(h:e[i]?=Y (Y (a8 it)))(hm:Ev m e H (.str why))(k:X 164 (n9 why it.r it.c) e (H++[.dead])):iP fw (aB jf [m,au dq [202,230,355] [164] (Loc i),au da [202,230,355] [164] (Loc i)]) e H K X :=C2 (ai hm (ai (cR (U h) (by cases it<;>rfl) rfl) (ai (cR (U h) (by cases it<;>rfl) rfl) aw))) k
theorem Sj{as:List (EM O)}{f:Str}{r:Nat}(h:jI as e H [.str f,.int r])(k:X 183 (zr f r) e (H++[.dead])):iP fw (aB vH as) e H K X:=h _ _ (by
 refine adX (oI (Sm rfl) ?_);show X 183 _ e ((H++[_]).set H.length .dead);rw[qG];exact k)
end
section
variable{w:OW}{r c:Nat}{H:List MO}{it:Itm}{is:List Itm}{k:Nat}{t u:Bool}{a b:Int}{s:So}{x y:Str}
theorem AM:iJ gz [202] [] (a8 (.tok w r c)) H=Y (.str w.1.sort.s):=rfl
theorem AN:iJ cS [202] [] (a8 (.tok w r c)) H=Y (.str w.1.txt):=rfl
theorem KW:iJ dq [202,230,355] [164] (a8 it) H=Y (.int it.r):=by cases it<;>rfl
theorem KU:iJ da [202,230,355] [164] (a8 it) H=Y (.int it.c):=by cases it<;>rfl
theorem vB:iJ bZ [230,355,522] [] (a8 (.br is r c)) H=Y (.lst (aL is)):=rfl
theorem Us{s:So}{t:Str}{v:Int}(h:eI s=W):s.v t v = .int v:=by cases s<;>first|rfl|exact bL h
theorem KY(h:eI w.1.sort=W):iJ qc [202] [] (a8 (.tok w r c)) H=Y (.int w.1.val):=by rw[←Us h];rfl
theorem Qd:zL ji (a8 it) (.gl 202) H=Y (!Cf it):=by cases it<;>rfl
theorem o7(h:decide (a < b)=t):ef (.int a) (.int b) H=Y t:=congrArg Y h
theorem wM(h:decide (b < a)=t):pe (.int a) (.int b) H=Y t:=congrArg Y h
theorem zI(h:decide (b<=a)=t):qz (.int a) (.int b) H=Y t:=congrArg Y h
theorem wK(h:(x == y)=t):aX (.str x) (.str y) H=Y t:=congrArg Y h
theorem Iy(h:(x == y)=t)(q:(!t)=u):eN (.str x) (.str y) H=Y u:=by rw[←q,←h];rfl
theorem yj{a b:Bool}{P:Prop}(h:cond a b LB=W)(k:a=W->b=W->P):P:=by
 induction a with
 |false=>exact bL h
 |true=>exact k rfl h
theorem agF(h:eI s=W):s.s=qj:=by cases s<;>first|rfl|exact bL h
theorem agE(h:eD s=W):s.s=jQ:=by cases s<;>first|rfl|exact bL h
theorem agI(h:nW s=LB):s.s=hY:=by cases s<;>first|rfl|exact bL h.symm
theorem agG(h:eI s=LB)(k:eD s=LB):nW s=LB:=by cases s<;>first|rfl|exact bL h.symm|exact bL k.symm
theorem agH(x:Str)(i:Int)(h:eI s=LB):s.v x i = .str x:=by cases s<;>first|rfl|exact bL h.symm
theorem Ry(h:nW s=t)(q:(!t)=u):aX (.str s.s) (.str hY) H=Y u:=by rw[←q,←h];cases s<;>rfl
theorem Iw(h:nW s=t):eN (.str s.s) (.str hY) H=Y t:=by rw[←h];cases s<;>rfl
theorem Rw(h:eD s=t):aX (.str s.s) (.str jQ) H=Y t:=by rw[←h];cases s<;>rfl
theorem sZ(h:(a == b)=t):aX (.int a) (.int b) H=Y t:=congrArg Y h
theorem Ct:dh ay (.str s.s) (.tup [.str qj,.str jQ]) H=Y (nW s):=by cases s<;>rfl
end
end
local macro_rules | `(tactic|walk_at "o")=>`(tactic|first|with_reducible assumption|(with_reducible first|apply HI|apply Qd|apply Ct|apply AM|apply AN|apply vB|apply KW|apply KU)|((with_reducible first|apply qu|apply nv|apply KY|apply o7|apply zI|apply Ry|apply Iw|apply o_eqI|apply Rw|apply wM|apply wK|apply sZ|apply Iy|apply o_nei)<;>first|with_reducible assumption|exact rfl|(with_reducible (first|apply RU|apply IS|apply ps_ge|apply ps_ge0)<;>assumption))|exact rfl|((first|apply Ct|apply nv|apply wK|apply o7)<;>with_reducible assumption))
local macro_rules | `(tactic|walk_at "e")=>`(tactic|first|with_reducible assumption|((with_reducible first|apply aq|apply aw|apply U|apply bq|apply ua|apply aV|apply Bf|apply dy|apply cR|apply rj|apply iw|apply rh|apply aa5|apply cA|apply jh|apply ub|apply ai)<;>walk_at "e")|((with_reducible first|apply jg|apply EI|apply aa2|apply Bh|apply rg)<;>walk_at "e")|((with_reducible first|apply gO|apply mY|apply EG|apply yn|apply pW)<;>walk_at "e")|walk_at "o" |exactλ_ _ h=>h)
section
open PySem PySem.W
section
variable{K:bj}{X:KX}{H:List MO}{is:List Itm}{k:Nat}{it:Itm}{t:List Itm}
theorem Oa(h:b (some x::some y::some d::eV m) H (eA K) λC fs _ H=>X C fs H):sl (bz 3 [d] m b) [x,y] H K X:=by rw[fU];exact h
noncomputable def zW{α:Type}(a:Str)(it:Itm):Res α:=.bad a it.r it.c
noncomputable abbrev odd{α:Type}(it:Itm):Res α:=zW cI it
theorem dY.pP{a:Type}{K:a->List MO->Prop}(h:dY ps es H K X (.bad why r c)):X 164 (n9 why r c) (H++[.dead]):=h _ (Up.r.nn .dead)
theorem xi{a:Type}{K0:a->List MO->Prop}(h:Out H K0 X (zW why it)):hP [.str why,a8 it] H K X:=by
 unfold hP;have e:Ev aqi [Y (.str why),Y (a8 it)] H LB:=by
  refine bc (b:=why == cI) (λhq=>?_) λhq=>?_
  .cases it with
   |br=>walk_at "e"
   |tok w=>exact gO (by walk_at "e") (gO (by walk_at "e") (jg (bq (cR (U rfl) AM rfl) aq (by cases w.1.sort<;>rfl))))
  .walk_at "e"
 exact fun2 (cu e (C3 rfl (U rfl) h.pP))
theorem I5{b:Type}{K0:b->List MO->Prop}(hm:Ev m e H (.str why))(a:e[j]?=Y (Y (a8 it)))(h:Out H K0 (xE XE' e) (zW why it)):ah (bp (aB hP [m,Loc j])) B e H KF' XE' :=fL (d7 (ai hm (ai (U a) aw)) (xi h))
def xy:Itm->Res Int
 | .br is r c=>odd (.br is r c)
 | .tok w r c=>cond (nW w.1.sort) (odd (.tok w r c)) (cond w.1.ln (.left w.1.txt r) (match w.1.kd with|none=>odd (.tok w r c)|some k=>.ok k))
theorem Ut(h:Out H (λk=>K (.int k)) X (xy it)):l7 [a8 it] H K X:=by
 unfold l7;refine fun1 ?_;cases it with
 |br is r c=>exact ct (by walk_at "e") (I5 (it:=.br is r c) aq rfl h)
 |tok w r c =>
  have h:Out H (λk=>K (.int k)) X (cond (nW w.1.sort) (odd (.tok w r c)) (cond w.1.ln (.left w.1.txt r) (match w.1.kd with|none=>odd (.tok w r c)|some k=>.ok k))):=h;refine bc (b:=nW w.1.sort) (λe=>?_) λe=>?_
  .rw[e]at h;exact ct (by walk_at "e") (I5 (it:=.tok w r c) aq rfl h)
  .rw[e]at h;have h1:Ev (aB yy [au cS [202] [] ak]) (Y (a8 (.tok w r c))::eV 1) H (.bool w.1.ln):=jh (by walk_at "e") λK X k=>q9 w.2.ln k;refine cu (by walk_at "e") ?_;refine bc (b:=w.1.ln) (λa=>?_) λa=>?_
   .rw[a]at h h1;exact ct (by walk_at "e") (Sj (by walk_at "e") (h _ (Le.n H .dead)))
   .rw[a]at h h1;refine cu (by walk_at "e") (eS (v:=zH w.1.kd) (jh (by walk_at "e") λK X k=>q9 w.2.kd k) ?_);cases f:w.1.kd with
    |none=>rw[f]at h;exact ct (by walk_at "e") (I5 (it:=.tok w r c) aq rfl h)
    |some k=>rw[f]at h;exact cu (by walk_at "e") (cW (by walk_at "e") (h H Up.r))
def eJ:Itm->Str
 | .br (.tok w _ _::_) _ _=>cond (nW w.1.sort) iK w.1.txt
 |_=>iK
def du:List Itm->Bool
 | .tok w _ _::_=>nW w.1.sort
 |_=>LB
theorem Ou(p:Ps is k t)(h:K (.bool (du t)) H):l4 [.lst (aL is),.int k] H K X:=by
 unfold l4;refine fun2 ?_;cases t with
 |nil=>exact cW (v:=.bool LB) (by walk_at "e") h
 |cons it r=>cases it with
  |br is r c=>exact cW (v:=.bool LB) (by walk_at "e") h
  |tok w r c=>exact cW (v:=.bool (nW w.1.sort)) (by walk_at "e") h
theorem HM(p:Ps is k t)(f:Ev a e H (.lst (aL is)))(hb:Ev b e H (.int k)):Ev (aB l4 [a,b]) e H (.bool (du t)):=jh (ai f (ai hb aw)) λK X k=>Ou p k
def nr(a:Itm):List Itm->Res Itm
 | []=>odd a
 |it::r=>cond (du (it::r)) (.ok it) (odd it)
theorem Ce(p:Ps is k t)(h:Out H (λx=>K (a8 x)) X (nr tk t)):vT [.lst (aL is),.int k,a8 tk] H K X:=by
 unfold vT;refine j5 ?_;have i:=HM (H:=H) p (U rfl) (U rfl) (e:=Y (.lst (aL is))::Y (.int k)::Y (a8 tk)::eV 0) (a:=Loc 0) (b:=Loc 1);cases t with
 |nil=>exact ct (by walk_at "e") (fL (d7 (by walk_at "e") (xi (K0:=λx=>K (a8 x)) h)))
 |cons it r =>
  have h:Out H (λx=>K (a8 x)) X (cond (du (it::r)) (.ok it) (odd it)):=h;refine bc (b:=du (it::r)) (λf=>?_) λf=>?_
  .rw[f]at h i;exact cu (by walk_at "e") (cW (by walk_at "e") (h H Up.r))
  .rw[f]at h i;exact ct (by walk_at "e") (fL (d7 (by walk_at "e") (xi (K0:=λx=>K (a8 x)) h)))
theorem MA(s:iM (.br is r c)=W)(h:K (.str (eJ (.br is r c))) H):vR [a8 (.br is r c)] H K X:=by
 unfold vR;refine fun1 ?_;have p:=Ps.of s;have f:=qu p H;cases is with
 |nil =>
  exact eS (v:=.none) (by walk_at "e") (cW (by walk_at "e") h)
 |cons it rest =>
  have e:pe (.int ((it::rest).length:Nat)) (.int 0) H=Y W:=wM (VW (aoY.mpr (anC _)));refine eS (v:=a8 it) (by walk_at "e") ?_;cases it with
  |br is r c=>exact cW (by walk_at "e") h
  |tok w r c =>
   have h:K (.str (cond (nW w.1.sort) iK w.1.txt)) H:=h;refine bc (b:=nW w.1.sort) (λa=>?_) λa=>?_
   .rw[a]at h;exact cW (by walk_at "e") h
   .rw[a]at h;exact cW (by walk_at "e") h
theorem acb(s:iM it=W)(h:K (.str (eJ it)) H):oj [a8 it] H K X:=by
 unfold oj;refine fun1 ?_;cases it with
 |tok w r c=>exact cW (by walk_at "e") h
 |br is r c =>
  have hm:Ev aqG (Y (a8 (.br is r c))::eV 0) H (.str (eJ (.br is r c))):=ub (U rfl) rfl aw λK X k=>MA s k;exact cW (by walk_at "e") h
theorem p7(s:iM it=W)(b:Ev a e H (a8 it)):Ev (aB oj [a]) e H (.str (eJ it)):=jh (ai b aw) λK X k=>acb s k
noncomputable def HJ(g:So->Bool):Itm->Bool | .tok w _ _=>g w.1.sort | .br ..=>LB
theorem P9{q:Str}{g:So->Bool}(hq:∀s:So,(s.s == q)=g s)(h:K (.bool (HJ g it)) H):DX [Y (a8 it),Y (.str q),Y .none] H (eA K) (λC fs _ H=>X C fs H):=by
 cases it with
 |br is r c=>exact cW (v:=.bool LB) (by walk_at "e") h
 |tok w r c =>
  have h:K (.bool (g w.1.sort)) H:=h;have hq:=hq w.1.sort;refine bc (b:=g w.1.sort) (λa=>?_) λa=>?_
  .rw[a]at h hq;exact cW (by walk_at "e") h
  .rw[a]at h hq;exact cW (by walk_at "e") h
theorem Qb{q:Str}{g:So->Bool}(hq:∀s:So,(s.s == q)=g s)(b:Ev a e H (a8 it)):Ev (aB rk [a,af q]) e H (.bool (HJ g it)):=jh (ai b (ai aq aw)) λK X k=>by unfold rk;exact Oa (P9 hq k)
def Ue(w:Wd)(r c:Nat):Res Int :=cond (eI w.sort) (cond w.sg (.bad cI r c) (cond (decide ((4294967296:Int)<=w.val)) (.bad zU r c) (.ok w.val))) (.bad cI r c)
theorem ahz(h:Out H (λv=>K (.int v)) X (Ue w.1 r c)):BH [a8 (.tok w r c)] H K X:=by
 unfold BH;refine fun1 ?_;have hi:=Qb (e:=Y (a8 (.tok w r c))::eV 0) (H:=H) (a:=Loc 0) (it:=.tok w r c) agf (U rfl);have hi:Ev _ _ _ (O.bool (eI w.1.sort)):=hi;have h:Out H (λv=>K (.int v)) X (cond (eI w.1.sort) (cond w.1.sg (.bad cI r c) (cond (decide ((4294967296:Int)<=w.1.val)) (.bad zU r c) (.ok w.1.val))) (.bad cI r c)):=h;have p:∀{A B:SM}{K:KF}{f:Str}{m:EM Bool},Ev m (Y (a8 (.tok w r c))::eV 0) H W->X 164 (n9 f r c) (H++[.dead])->ah (a9 m (iP fw (aB jf [af f,au dq [202,230,355] [164] ak,au da [202,230,355] [164] ak])) A) B (Y (a8 (.tok w r c))::eV 0) H K (λC fs _ H=>X C fs H):=λhm y=>ct hm (C3 (it:=.tok w r c) rfl aq y);refine h.bc (λi h=>?_) λi h=>?_
 .rw[i]at hi;refine aM (w.2.agu i H) λv h1 x=>?_;refine bc (b:=w.1.sg) (λj=>?_) λj=>?_
  .rw[j]at h x;exact p (by walk_at "e") h.pP
  .rw[j]at h x;refine cu (by walk_at "e") ?_;have z:tc (.int 2) (.int 32) H=Y (.int 4294967296):=by kernel_rfl!
   refine bc (b:=decide ((4294967296:Int)<=w.1.val)) (λl=>?_) λl=>?_
   .rw[l]at h;exact p (by walk_at "e") h.pP
   .rw[l]at h;exact cu (by walk_at "e") (cW (by walk_at "e") (h H Up.r))
 .rw[i]at hi;exact p (by walk_at "e") h.pP
end
end
section
open PySem PySem.W PyProof.Rows PySem.Calls
section
theorem RT(xs:List O){lo hi:Option Int}{a b:Nat}(e:ajQ lo hi LA xs.length=((a:Int),(b:Int),1)):pj xs lo hi LA=(xs.drop a).take (b - a):=by
 unfold pj;rw[e];have:=pick_run xs.toArray a (b - a);simp only[sliceRange_one]
 simpa using this
theorem aeQ(xs:List O)(e:a<=b)(hb:b<=xs.length):pj xs (Y a) (Y b) LA=(xs.drop a).take (b - a):=by
 refine RT xs ?_;rw[aoc];simp only[apE,clipAt_nat,amF hb,amF (LI e hb)]
theorem pick_from(xs:List O){a:Nat}(e:a<=xs.length):pj xs (Y a) LA LA=xs.drop a:=by
 have:=RT xs (lo:=Y (a:Int)) (hi:=LA) (a:=a) (b:=xs.length) (by rw[aoc];simp only[apE,clipAt_nat,amF e]);rw[this,List.take_of_length_le (by rw[amu];exact LL _)]
end
theorem aaQ(is:List Itm)(k:Nat):(aL is).drop k=aL (is.drop k):=by rw[t5,t5,List.map_drop]
theorem Jc{k:Nat}(p:Ps is k t)(H:List MO):wV (.lst (aL is)) (Y (k:Int)) LA LA H=Y (.lst (aL t)):=by
 show alt LA (alt (gd (b6 LB&&fits (aL is)) (Y (O.lst (pj (aL is) (Y (k:Int)) LA LA)))) _)=_;rw[ER p.s,pick_from _ (by rw[kP];exact p.b),aaQ,p.d];rfl
section
variable{K:bj}{X:KX}{H:List MO}{is:List Itm}{k:Nat}{it:Itm}{t:List Itm}
def qp(acc:List Int):List Itm->Res (List Int)
 | []=>.ok acc
 |it::r=>(xy it).bind λk=>qp (acc++[k]) r
noncomputable def iA(l:List Int):List O:=l.map .int
theorem sM(a b:List Int):iA (a++b)=iA a++iA b:=ajG
theorem MZ(j:H[k0]?=LA):∀(t:List Itm) (acc:List Int) (G:List MO),acc.length+t.length<=4000->Le H G->G[k0]?=Y (.lst (iA acc))-> Out H (λks=>K (.lst (iA ks))) X (qp acc t)->og (aB l7 [ak]) [] q k0 (λG=>lZ k0 G K) X (aL t) G:=by
 intro t;induction t with
 |nil =>
  intro acc G _ le b h;show oP _ _;exact oI (a:=iA acc) (by rw[b];rfl) (h _ (le.st j .dead))
 |cons it r p =>
  intro acc G i le b h;conv=>whnf
  have h:Out H (λks=>K (.lst (iA ks))) X ((xy it).bind λk=>qp (acc++[k]) r):=h;refine Ut (h.bd le λv F e h=>?_);have f:=e.g b;have l:fits (iA acc)=W:=cC (by unfold iA;rw[QC];exact LI (ajk _ _) (LI i (by decide)));have m:pN k0 (.int v) F=Y (F.set k0 (.lst (iA (acc++[v])))):=by
   unfold pN;rw[f];show gd (fits (iA acc)) _=_;rw[l,sM];rfl
  refine oI m ?_;exact p (acc++[v]) _ (by rw[LN];exact LI (ajS (ajH _ _)) i) ((le.t e).st j _) (dW f _) h
theorem aah(b:Ev a e H (.lst (aL t)))(f:t.length<=2000)(h:Out H (λks=>K (.lst (iA ks))) X (qp [] t)):jt (mQ a) [] (aB l7 [ak]) [] e H K X:=by
 refine cast yi.symm (oI (a:=[]) rfl (b _ _ (oI (a:=aL t) rfl ?_)));exact MZ (jE H) t [] _ (LI (ajS (aj8 _)) (LI f (by decide))) (Le.n H _) (eG H _) h
def qq:Itm->Res (List Int)
 | .br (_::t) _ _=>qp [] t
 |_=>.stuck
theorem Qr(s:iM it=W)(h:Out H (λks=>K (.lst (iA ks))) X (qq it)):ui [a8 it] H K X:=by
 unfold ui;refine fun1 ?_;cases it with
 |tok w r c=>exact h.elim
 |br is r c=>cases is with
  |nil=>exact h.elim
  |cons it is =>
   have p:=Ps.of s;have a:wV (.lst (aL (it::is))) (Y 1) LA LA H=Y (.lst (aL is)):=Jc p.nx H;refine zY (aah (Bi (by walk_at "e") aq aq aq rfl rfl rfl a) (by have:=p.s;simp only[VN]at *;lia) h)
end
end
section
open PySem PySem.W
section
variable{K:bj}{X:KX}{H:List MO}{is:List Itm}{k:Nat}{it:Itm}{t:List Itm}
def kI(is:List Itm)(K:bj)(p:List Int×List Itm)(G:List MO):Prop:=∀a,Ps is a p.2->K (.tup [.tup (iA p.1),.int a]) G
theorem Res.AU{b e h:Type}{x:Res b}{f:b->Res e}{g:e->Res h}:(x.bind f).bind g=x.bind λa=>(f a).bind g:=by cases x<;>rfl
theorem Res.BR{a e:Type}{x:Res a}{f:a->Res e}:(gk b x).bind f=gk b (x.bind f):=by cases b<;>rfl
end
section
variable{H G:List MO}{k:Nat}{xs ys:List O}{x y:O}{n:Str}{C:Nat}{fs:List (Str×O)}{cs es:List Nat}{v:O}
theorem n8(h:H[k]?=Y (.lst xs)):dQ mL H (.ref k)=Y (k,xs):=by
 show(H[k]?).bind _=_;rw[h];rfl
theorem DR(h:H[k]?=Y (.inst C fs)):dQ mI H (.ref k)=Y (k,C,fs):=by
 show(H[k]?).bind _=_;rw[h];rfl
theorem xS(h:H[k]?=Y (.bD fs)):dQ mD H (.ref k)=Y (k,fs):=by
 show(H[k]?).bind _=_;rw[h];rfl
theorem kX(h:H[k]?=Y (.lst xs)):listOf H (.ref k)=Y xs:=by show H[k]?.bind mC=_;rw[h];rfl
theorem ie(h:H[k]?=Y (.lst xs)):qO (.ref k) H=Y "list":=by unfold qO;rw[n8 h];rfl
theorem adR(n:Str)(x:O)(H:List MO):lJ n [] x H=LA:=by
 unfold lJ;cases zN x H<;>rfl
theorem abp(h:fits (xs++ys)=W):fits xs=W:=cC (by have:=eg h;rw[LN]at this;lia)
theorem xW(h:H[k]?=Y (.lst xs))(a:listOf H y=Y ys)(f:fits (xs++ys)=W):mV .ext (.ref k) [y] H=Y (.none,H.set k (.lst (xs++ys))):=by
 show(dQ mL H (.ref k)).bind _=_;rw[n8 h];show gd (fits xs) ((listOf H y).bind _)=_;rw[abp f,a];show gd (fits (xs++ys)) _=_;rw[f];rfl
theorem oa(h:H[k]?=Y (.lst xs))(f:fits xs=W):mV .app (.ref k) [y] H=Y (.none,H.set k (.lst (xs++[y]))):=by
 show(dQ mL H (.ref k)).bind _=_;rw[n8 h];show gd (fits xs) _=_;rw[f];rfl
theorem Mu(h:H[k]?=Y (.lst (xs++[y])))(f:fits (xs++[y])=W):mV .pop (.ref k) [] H=Y (y,H.set k (.lst xs)):=by
 show(dQ mL H (.ref k)).bind _=_;rw[n8 h];show gd (fits (xs++[y])) (gd W ((xs++[y]).getLast?.bind λv=>Y (v,H.set k (.lst (xs++[y]).dropLast))))=_;rw[f,List.getLast?_concat,List.dropLast_concat];rfl
theorem abq(h:l8 n t pO=Y m)(e:qO x H=Y t):((qO x H).bind λt=>l8 n t pO)=Y m:=by rw[e];exact h
theorem add_l(e:listOf H y=Y ys)(f:fits (xs++ys)=W):aQ (.lst xs) y H=Y (.lst (xs++ys)):=by
 unfold aQ;have e1:(iG (.lst xs) y λa b=>Y (O.int (a+b)))=LA:=rfl;have e2:((aS (.lst xs)).bind λa=>(aS y).bind λb=>gd (fits (a.cps.toList++b.cps.toList)) (Y (O.str (a++b))))=LA:=rfl;rw[e1,e2,e];show gd (fits (xs++ys)) _=_;rw[f];rfl
theorem nD(h:H[k]?=Y (.lst xs))(f:fits xs=W):iZ (.ref k) H=Y (.int xs.length):=by
 unfold iZ;rw[kX h];show alt (gd (fits xs) _) _=_;rw[f];rfl
theorem gh(h:H[k]?=Y (.inst C fs))(a:bJ C cs=W)(b:look n fs=Y v):iJ n cs es (.ref k) H=Y v:=by
 unfold iJ;rw[DR h];show gd (bJ C cs) (look n fs)=_;rw[a];exact b
theorem qD(h:H[k]?=Y (.inst C fs))(a:(bJ C cs&&bf fs 900)=W):mF n cs es (.ref k) v H=Y (H.set k (.inst C (fT n v fs))):=by
 unfold mF;rw[DR h];show alt (gd (bJ C cs&&bf fs 900) _) _=_;rw[a];rfl
end
section
variable{K:bj}{X:KX}{H:List MO}{a:EM O}{as:List (EM O)}{e:En}{x:O}{n:Str}{m:Bm}{tab:List (Nat×Fn)}
theorem ir(b:Ev a e H x)(f:qO x H=Y t)(hb:l8 n t pO=Y m)(k:Args as e H (λxs G=>oP (mV m x xs G) λp=>K p.1 p.2) X):aH n [] a as e H K X:=b _ _ (by
 show eP _ _ _;rw[adR];exact oI (abq hb f) k)
theorem kK{K:List O->List MO->Prop}(h:jI as e H xs)(k:K xs H):Args as e H K X:=h _ _ k
theorem afH(h1:e[i]?=Y (Y c))(b:M e H (λv G=>A e G (λz G=>KF' (.ret (.tup [.tup [c,v],z])) e G) (xE XE e)) (xE XE e)):aU (ar [ar [Loc i,M],A]) e H KF' XE:=by
 conv=>whnf
 exact oI (a:=c) (by rw[h1];rfl) b
theorem vX:l8 lN "list" pO=Y .ext:=by kernel_rfl!
theorem l9:l8 dG "list" pO=Y .app:=by kernel_rfl!
theorem NV:l8 I0 "list" pO=Y .pop:=by kernel_rfl!
end
noncomputable def Fm.n:Fm->Nat
 | .f0=>0 | .f1=>1 | .f2=>2 | .f3=>3 | .f4=>4 | .f5=>5 | .f6=>6 | .f7=>7 | .f8=>8 | .f9=>9 | .f10=>10
theorem um{a:Type}(f:Fm){g h:Fm->a}(e : [Fm.f0,.f1,.f2,.f3,.f4,.f5,.f6,.f7,.f8,.f9,.f10].map g=[Fm.f0,.f1,.f2,.f3,.f4,.f5,.f6,.f7,.f8,.f9,.f10].map h):g f=h f:=by
 have:=congrArg (λl=>l[f.n]?) e;cases f<;>exact LC this
section
variable{K:bj}{X:KX}{H:List MO}{is:List Itm}{k:Nat}{it:Itm}{t:List Itm}
theorem uk(h:bf l 1000=W):fits (iA l)=W:=cC (by unfold iA;rw[QC];have:=eg h;lia)
theorem afU{k:Nat}(h1:Ev m e H (.tup (iA l)))(b:Ev a e H (.int k))(h:KF' (.ret (.tup [.tup (iA l),.int k])) e H):aU (ar [m,a]) e H KF' XE:=cW (cA (ai h1 (ai b aw)) rfl) h
theorem EJ(h:Ev a e H x)(b:listOf H x=Y xs)(f:fits xs=W):Ev (n6 a) e H (.tup xs):=λK X k=>h _ _ (oI b (bI f k))
def S9{a:Type}:List Itm->Res a
 |it::_=>cond (eJ it == dN) ((qq it).bind λ_=>.stuck) .stuck
 | []=>.stuck
theorem agk{b:Type}{K0:b->List MO->Prop}(p:Ps is k t)(h:dY ps [] H K0 X (S9 t)):Bs [sf,.lst (aL is),.int k] H K X:=by
 unfold Bs;refine j5 (iL ?_);show iq _ _ [Y sf,Y (.lst (aL is)),Y (.int k),Y (.ref H.length),Y (.bool LB)] (H++[.lst []]) _ _;rw[Aj];cases t with
 |nil=>exact h.elim
 |cons it r =>
  refine h.bc (λhq h=>?_) λ_ h=>h.elim;have f:=p7 (H:=H++[.lst []]) (e:=[Y sf,Y (.lst (aL is)),Y (.int k),Y (.ref H.length),Y (.bool LB)]) (a:=ao (aF ay) ax aD) p.sm (by walk_at "e");refine(show Ev aqp [Y sf,Y (.lst (aL is)),Y (.int k),Y (.ref H.length),Y (.bool LB)] (H++[.lst []]) W by walk_at "e") _ _ (cT rfl (fL ?_));refine ir (U rfl) (ie (eG H _)) vX ?_;show aB ui _ _ _ _ _;exact d7 (ai (show Ev _ _ _ (a8 it) by walk_at "e") aw) (Qr p.sm (h.bd (Le.n H _) λks F e h=>h.elim))
variable{j:Nat}{r:Nat}{c:Nat}
theorem ib{n:Str}{a es:List Nat}{o m:EM O}{e:En}{x v:O}{H':List MO}{C:SM}{K:KF}{X:KE}(hm:Ev m e H v)(b:Ev o e H x)(f:mF n a es x v H=Y H')(k:C e H' K X):ah (cY n a es o m) C e H K X:=hm _ _ (b _ _ (oI f k))
theorem y8{n:Str}{a es:List Nat}{o m:EM O}{e:En}{x v:O}{H':List MO}{K:KF}{X:KE}(hm:Ev m e H v)(b:Ev o e H x)(f:mF n a es x v H=Y H')(k:K .next e H'):cY n a es o m e H K X:=hm _ _ (b _ _ (oI f k))
theorem abR(h:b (some x::some d::eV m) H (eA K) λC fs _ H=>X C fs H):sl (bz 2 [d] m b) [x] H K X:=by rw[fU];exact h
theorem N9(h:b (some x::some y::eV m) H (eA K) λC fs _ H=>X C fs H):sl (bz 2 [d] m b) [x,y] H K X:=by rw[fU];exact h
theorem abS(h:b (some x::some y::some z::eV m) H (eA K) λC fs _ H=>X C fs H):sl (bz 3 [d] m b) [x,y,z] H K X:=by rw[fU];exact h
def bQ(is:List Itm)(k r c:Nat):MO:=.inst 355 [(bZ,.lst (aL is)),(bX,.int k),(dq,.int r),(da,.int c)]
abbrev dz(H:List MO)(j:Nat)(is:List Itm)(k r c:Nat):Prop:=H[j]?=Y (bQ is k r c)
theorem y9(h:dz H j is k r c):iJ bZ [230,355,522] [] (.ref j) H=Y (.lst (aL is)):=gh h rfl rfl
theorem wj(h:dz H j is k r c):iJ bX [355,522] [183] (.ref j) H=Y (.int k):=gh h rfl rfl
theorem acq(h:dz H j is k r c):iJ dq [202,230,355] [164] (.ref j) H=Y (.int r):=gh h rfl rfl
theorem acp(h:dz H j is k r c):iJ da [202,230,355] [164] (.ref j) H=Y (.int c):=gh h rfl rfl
theorem aeF(h:H[j]?=Y (.inst C fs)):zN (.ref j) H=Y (C,fs):=by
 unfold zN;rw[DR h];rfl
theorem de(h:H[j]?=Y (.inst C fs))(a:((eM C tab).bind λF=>gd (uS (look n fs)) (Y F))=Y F):lJ n tab (.ref j) H=Y F:=by
 unfold lJ;rw[aeF h];exact a
noncomputable def Eu:List Itm->Bool | []=>W|_::_=>LB
noncomputable def ur:List Itm->O | []=>.none|it::_=>a8 it
theorem Ew(p:Ps is k t):((k:Int) == (is.length:Int))=Eu t:=by
 cases t with
 |nil=>rw[p.eq];exact abk _
 |cons=>have:=p.lt;exact VF.mpr (by lia)
theorem acZ(a:dz H j is k r c)(p:Ps is k t)(h:K (.bool (Eu t)) H):ue [.ref j] H K X:=by
 unfold ue;exact fun1 (cW (ua (cR (U rfl) (wj a) rfl) (dy (cR (U rfl) (y9 a) rfl) (qu p H)) (sZ (Ew p))) h)
theorem A7(a:dz H j is k r c)(p:Ps is k t)(b:Ev o e H (.ref j)):Ev (cJ (aH mq [(355,ue)] o [])) e H (Eu t) :=iw (ub b (de a rfl) aw λK X k=>acZ a p k) rfl
theorem acd(a:dz H j is k r c)(p:Ps is k t)(h:K (ur t) H):uc [.ref j] H K X:=by
 unfold uc;refine fun1 ?_;have b:=A7 (e:=Y (O.ref j)::eV 0) (o:=Loc 0) a p (U rfl);cases t with
 |nil=>exact cW (rg b aq) h
 |cons it f=>exact cW (pW b (aV (cR (U rfl) (y9 a) rfl) (cR (U rfl) (wj a) rfl) (nv p H))) h
theorem E0(a:dz H j is k r c)(p:Ps is k t)(b:Ev o e H (.ref j)):Ev (aH mr [(355,uc)] o []) e H (ur t) :=ub b (de a rfl) aw λK X k=>acd a p k
def gN(q:Str):List Itm->Bool
 | .br is r c::_=>eJ (.br is r c) == q
 |_=>LB
theorem acY(s:iN is=W)(p:Ps is k t)(h:K (.bool (gN q t)) H):BE [ur t,.str q] H K X:=by
 unfold BE;refine N9 ?_;cases t with
 |nil=>exact cW (v:=.bool LB) (by walk_at "e") h
 |cons it b=>cases it with
  |tok w r c =>
   rw[show ur (.tok w r c::b)=a8 (.tok w r c) from rfl];exact cW (v:=.bool LB) (by walk_at "e") h
  |br a r c =>
   rw[show ur (.br a r c::b)=a8 (.br a r c) from rfl];refine cW (v:=.bool (eJ (.br a r c) == q)) (EG (by walk_at "e") (yn (by walk_at "e") (ua (x:=.str (eJ (.br a r c))) (ub (U rfl) rfl aw λK X k=>MA p.sm k) (U rfl) (wK rfl)))) h
theorem HH(a:dz H j is k r c)(p:Ps is k t)(b:Ev o e H (.ref j)):Ev (cJ (aH iV [(355,ud)] o [af q])) e H (gN q t):=by
 refine iw (x:=.bool (gN q t)) (ub b (de a rfl) (ai aq aw) λK X f=>?_) rfl;unfold ud;exact N9 (cW (jh (ai (E0 a p (U rfl)) (ai (U rfl) aw)) λK X k=>acY p.m p k) f)
def nu:List Itm->Bool
 |it::_=>HJ eD it
 | []=>LB
theorem ac0(h:K (.bool (nu t)) H):rk [ur t,.str jQ,.none] H K X:=by
 unfold rk;refine abS ?_;cases t with
 |nil=>exact cW (v:=.bool LB) (by walk_at "e") h
 |cons it a=>exact P9 SV h
theorem ac1(a:dz H j is k r c)(p:Ps is k t)(b:Ev o e H (.ref j)):Ev (cJ (aH jP [(355,yw)] o [af jQ])) e H (nu t):=by
 refine iw (x:=.bool (nu t)) (ub b (de a rfl) (ai aq aw) λK X f=>?_) rfl;unfold yw;exact Oa (cW (jh (ai (E0 a p (U rfl)) (ai (U rfl) (ai (U rfl) aw))) λK X k=>ac0 k) f)
def abg{a:Type}(r c:Nat):List Itm->Res a
 | []=>.bad cI r c
 |it::_=>.bad cI it.r it.c
theorem NR{f:Type}{K0:f->List MO->Prop}(a:dz H j is k r c)(p:Ps is k t)(h:Out H K0 X (abg r c t)):yv [.ref j] H K X:=by
 unfold yv;refine abR (eS (E0 a p (U rfl)) ?_);cases t with
 |nil=>exact ct (by walk_at "e") (C2 (ai (U rfl) (ai (cR (U rfl) (acq a) rfl) (ai (cR (U rfl) (acp a) rfl) aw))) h.pP)
 |cons it e =>
  rw[show ur (it::e)=a8 it from rfl];have b:lM (a8 it) .none H=Y LB:=by cases it<;>rfl
  exact cu (bq (U rfl) aq b) (C3 rfl (U rfl) h.pP)
theorem aha{i:Type}{K0:i->List MO->Prop}(a:dz H j is k r c)(p:Ps is k t)(h:match t with | []=>Out H K0 X (.bad cI r c)|it::_=>K (a8 it) (H.set j (bQ is (k+1) r c))):lB [.ref j] H K X:=by
 unfold lB;refine fun1 ?_;have f:=A7 (e:=Y (O.ref j)::eV 0) (o:=Loc 0) a p (U rfl);cases t with
 |nil=>exact ct f (fL (dR (U rfl) (de a rfl) aw (NR (K0:=K0) a p h)))
 |cons it l =>
  refine cu f (ib (v:=.int (k+1:Nat)) (aV (cR (U rfl) (wj a) rfl) aq rfl) (U rfl) (qD a rfl) ?_);have b:dz (H.set j (bQ is (k+1) r c)) j is (k+1) r c:=dW a _;refine cW (v:=a8 it) (aV (cR (U rfl) (y9 b) rfl) (aV (y:=.int 1) (v:=.int k) (cR (U rfl) (wj b) rfl) aq ?_) (nv p _)) h;show Y (O.int ((k+1:Nat) - 1:Int))=_;rw[show((k+1:Nat) - 1:Int)=k by lia]
theorem AZ{f:Type}{K0:f->List MO->Prop}{e:En}{o:EM O}(a:dz H j is k r c)(p:Ps is k t)(b:Ev o e H (.ref j))(h:match t with | []=>Out H K0 X (.bad cI r c)|it::_=>K (a8 it) (H.set j (bQ is (k+1) r c))):aH iW [(355,lB)] o [] e H K X :=dR b (de a rfl) aw (aha (K0:=K0) a p h)
theorem A0(a:dz H j is k r c)(p:Ps is k (it::t))(b:Ev o e H (.ref j))(h:K (a8 it) (H.set j (bQ is (k+1) r c))):aH iW [(355,lB)] o [] e H K X:=AZ (K0:=λ(_:Int) _=>True) a p b h
theorem MG{e:En}{o:EM O}(a:dz H j is k r c)(p:Ps is k t)(b:Ev o e H (.ref j))(h:K (.lst (aL t)) (H.set j (bQ is is.length r c))):aH mw [(355,uf)] o [] e H K X:=by
 refine dR b (de a rfl) aw ?_;unfold uf;refine fun1 (eS (v:=.lst (aL t)) (Bi (cR (U rfl) (y9 a) rfl) (cR (U rfl) (wj a) rfl) aq aq rfl rfl rfl (Jc p H)) ?_);exact ib (v:=.int is.length) (dy (cR (U rfl) (y9 a) rfl) (qu p H)) (U rfl) (qD a rfl) (cW (U rfl) h)
theorem ZH(a:dz H j is k r c)(p:Ps is k [])(b:Ev o e H (.ref j))(h:K .none H):aH m7 [(355,ug)] o [] e H K X:=by
 refine dR b (de a rfl) aw ?_;unfold ug;exact fun1 (j7 (rh (A7 a p (U rfl)) rfl) h)
theorem MI{i:Type}{K0:i->List MO->Prop}(a:dz H j is k r c)(p:Ps is k t)(f:Ev o e H (.ref j))(h:match t with | []=>K .none H|it::_=>Out H K0 X (.bad cI it.r it.c)):aH m7 [(355,ug)] o [] e H K X:=by
 refine dR f (de a rfl) aw ?_;unfold ug;refine fun1 ?_;have b:=A7 (e:=Y (O.ref j)::eV 0) (o:=Loc 0) a p (U rfl);cases t with
 |nil=>exact j7 (rh b rfl) h
 |cons it l=>exact oH (rh b rfl) (show bp _ _ _ _ _ from dR (U rfl) (de a rfl) aw (NR (K0:=K0) a p h))
theorem Qi{is:List Itm}{r c:Nat}(h:K (.ref H.length) (H++[bQ is 0 r c])):vG [.lst (aL is),.int r,.int c] H K X:=by
 unfold vG;rw[fU];show Bw _ _ _ _;unfold Bw;refine p5 ?_;have a:∀{C:Nat}{fs:List (Str×O)}{n:Str}{b es:List Nat}{v:O},(bJ C b&&bf fs 900)=W->mF n b es (.ref H.length) v (H++[.inst C fs])=Y (H++[.inst C (fT n v fs)]):=λe=>by
  rw[qD (eG H _) e,qG]
 exact ib (U rfl) (U rfl) (a rfl) (ib aq (U rfl) (a rfl) (ib (U rfl) (U rfl) (a rfl) (y8 (U rfl) (U rfl) (a rfl) h)))
theorem JB{a:Itm}{is:List Itm}(s:iM (.br (a::is) r c)=W)(h:K (.ref H.length) (H++[bQ is 0 r c])):rn [a8 (.br (a::is) r c)] H K X:=by
 unfold rn;exact fun1 (zY (d7 (ai (Bi (v:=.lst (aL is)) (by walk_at "e") aq aq aq rfl rfl rfl (Jc (Ps.of s).nx H)) (ai (by walk_at "e") (ai (by walk_at "e") aw))) (Qi h)))
theorem ZG(s:iM (.br (h0::is) r c)=W)(b:Ev a e H (a8 (.br (h0::is) r c)))(h:K (.ref H.length) (H++[bQ is 0 r c])):aB rn [a] e H K X :=d7 (ai b aw) (JB s h)
theorem Ps.AS(s:iM (.br (h0::is) r c)=W):Ps is 0 is:=by
 have s':iN is=W:=by have:=(Ps.of s).m;have:(iM h0&&iN is)=W:=this;rw[LM]at this;exact this.2
 exact⟨rfl,aeN _,by have:=(Ps.of s).s;simp only[VN]at this;lia,s'⟩
variable{G:List MO}{d:Nat}
theorem M6(i:∀b f,b (.lst (aL t)) G->a e H b f)(l:t.length<=2000)(h:Out G (λks=>K (.lst (iA ks))) X (qp [] t)):jt (mQ a) [] (aB l7 [ak]) [] e H K X:=by
 refine cast yi.symm (oI (a:=[]) rfl (i _ _ (oI (a:=aL t) rfl ?_)));exact MZ (jE G) t [] _ (by simp only[aaT];lia) (Le.n G _) (eG G _) h
theorem ZF(f:dz H j is k r c)(p:Ps is k t)(m:Ev o e H (.ref j))(h:match t with | .tok w r1 a::_=>cond (eD w.1.sort) (K (a8 (.tok w r1 a)) (H.set j (bQ is (k+1) r c))) (K .none H)|_=>K .none H):aH rP [(355,Bx)] o [] e H K X:=by
 refine dR m (de f rfl) aw ?_;unfold Bx;refine fun1 (zY ?_);have hi:=ac1 (e:=Y (O.ref j)::eV 0) (o:=Loc 0) f p (U rfl);have no:∀{i:bj}{X':KX},i .none H->nu t=LB->dP aqO aq3 (aW .none) (Y (O.ref j)::eV 0) H i X':=λl hb=>(hb▸hi) _ _ (cF rfl l);cases t with
 |nil=>exact no h rfl
 |cons it x=>cases it with
  |br=>exact no h rfl
  |tok w r1 a =>
   have h:cond (eD w.1.sort) (K (a8 (.tok w r1 a)) (H.set j (bQ is (k+1) r c))) (K .none H):=h;cases b:eD w.1.sort with
   |true =>
    rw[b]at h;have hb:nu (.tok w r1 a::x)=W:=b;exact(hb▸hi) _ _ (cT rfl (AZ (K0:=λ(_:Int) _=>True) f p (U rfl) h))
   |false=>rw[b]at h;exact no h b
theorem acF(h:H[d]?=Y (.bD fs)):dh bd (.str s) (.ref d) H=Y (nB (look s fs)):=by
 unfold dh wU;rw[xS h];have e1:(AQ bd (.ref d) (.str s))=LA:=rfl;have e2:listOf H (.ref d)=LA:=by show H[d]?.bind mC=_;rw[h];rfl
 rw[e1,e2];rfl
theorem RW(h:H[d]?=Y (.bD fs))(f:fits fs=W):putItem (.ref d) (.str s) v H=Y (H.set d (.bD (fT s v fs))):=by
 unfold putItem;rw[xS h];show alt (gd (fits fs) _) _=_;rw[f];rfl
theorem I6{o i m:EM O}{e:En}{x y v:O}{H':List MO}{C:SM}{K:KF}{X:KE}(hm:Ev m e H v)(a:Ev o e H x)(hi:Ev i e H y)(b:putItem x y v H=Y H')(k:C e H' K X):ah (mN o i m) C e H K X:=hm _ _ (a _ _ (hi _ _ (oI b k)))
theorem MD(h:a e H (λx G=>F [x] G K X) X):aB F [a] e H K X:=h
theorem Up.s1(h:H[d]?=Y m)(m':MO):Up [d] H (H.set d m'):=λk x e n=>by
 rw[WC λq=>by rw[q]at n;simp[bJ]at n];exact e
def wt(a:List (Str×O))(m:Int):Itm->Res (List Int×List (Str×O))
 | .br (_::t) _ _=>cond (nu t) (match t with
   | .tok w _ _::x::[]=>gk (b6 (oZ a)) ((xy x).bind λk=>.ok ([k],[(w.1.txt,.int m)]))
   |_=>.stuck) ((qp [] t).bind λks=>.ok (ks,a))
 |_=>.stuck
theorem adk(s:iM it=W)(M:H[d]?=Y (.bD ids))(h:jZ [d] H (λp G=>G[d]?=Y (.bD p.2)->K (.lst (iA p.1)) G) X (wt ids m it)):BG [a8 it,.ref d,.int m] H K X:=by
 induction it using Itm.casesOn with
 |tok=>exact h.elim
 |br l r c =>
 induction l using cL with
 |nil=>exact h.elim
 |cons h0 t =>
  unfold BG;have p:=Ps.AS s;refine j5 (fK (ZG s (U rfl) ?_));have Q:dz (H++[bQ t 0 r c]) H.length t 0 r c:=eG H _;have z:=(Le.n H (bQ t 0 r c)).g M;have y:Up [d] H (H++[bQ t 0 r c]):=Up.r.nn _;have D:=jE H;have L:d≠H.length:=λq=>by rw[q,D]at M;exact bR M
  have plain:nu t=LB->jZ [d] H (λp G=>G[d]?=Y (.bD p.2)->K (.lst (iA p.1)) G) X ((qp [] t).bind λks=>.ok (ks,ids))->∀{e:En}{C:SM},e[3]?=Y (Y (.ref H.length))->ah aqt C e (H++[bQ t 0 r c]) (eA K) (λC fs _ H=>X C fs H):=λhb h {e} {C} he=>xm (M6 (G:=(H++[bQ t 0 r c]).set H.length (bQ t t.length r c)) (λK' X' hk=>MG Q p (U he) hk) p.s (h.bd (y.st D _) λks F e h=>h F ((y.st D _).t e.u) (e.g (by rw[WC (aaU L)];exact z))));refine fK (ZF Q p (U rfl) ?_);induction t using cL with
  |nil=>exact ct (by walk_at "e") (plain rfl h rfl)
  |cons it Z =>
  induction it using Itm.casesOn with
  |br=>exact ct (by walk_at "e") (plain rfl h rfl)
  |tok w r1 a =>
   have h:jZ [d] H (λp G=>G[d]?=Y (.bD p.2)->K (.lst (iA p.1)) G) X (cond (eD w.1.sort) (match Itm.tok w r1 a::Z with | .tok w _ _::x::[]=>gk (b6 (oZ ids)) ((xy x).bind λk=>.ok ([k],[(w.1.txt,.int m)]))|_=>.stuck) ((qp [] (.tok w r1 a::Z)).bind λks=>.ok (ks,ids))):=h;show cond (eD w.1.sort) _ _;cases T:eD w.1.sort with
   |false=>rw[T]at h;exact ct (by walk_at "e") (plain T h rfl)
   |true =>
    rw[T]at h;induction Z using cL with
    |nil=>exact h.elim
    |cons x l =>
    induction l using cL with
    |cons _ _=>exact h.elim
    |nil =>
     have h:jZ [d] H (λp G=>G[d]?=Y (.bD p.2)->K (.lst (iA p.1)) G) X (gk (b6 (oZ ids)) ((xy x).bind λk=>.ok ([k],[(w.1.txt,.int m)]))):=h;refine bg h.gr λf h=>?_;have f:ids=[]:=by cases ids with|nil=>rfl|cons=>exact bL f
     subst f;have B:dz ((H++[bQ [.tok w r1 a,x] 0 r c]).set H.length (bQ [.tok w r1 a,x] (0+1) r c)) H.length [.tok w r1 a,x] 1 r c:=dW Q _;have b:((H++[bQ [.tok w r1 a,x] 0 r c]).set H.length (bQ [.tok w r1 a,x] (0+1) r c))[d]?=Y (.bD []):=by rw[WC (aaU L)];exact z
     have qr:Up [d] H ((H++[bQ [.tok w r1 a,x] 0 r c]).set H.length (bQ [.tok w r1 a,x] (0+1) r c)):=y.st D _;generalize ((H++[bQ [.tok w r1 a,x] 0 r c]).set H.length (bQ [.tok w r1 a,x] (0+1) r c))=G at B b qr ⊢;refine cu (by walk_at "e") (ct (by walk_at "e") (fA (cu (bq (by walk_at "e") (U rfl) (acF b)) (I6 (U rfl) (U rfl) (by walk_at "e") (RW b rfl) ?_))));have i:dz (G.set d (.bD (fT w.1.txt (.int m) []))) H.length [.tok w r1 a,x] 1 r c:=by
      show(G.set d _)[H.length]?=_;rw[WC L];exact B
     have A:(G.set d (.bD (fT w.1.txt (.int m) [])))[d]?=Y (.bD [(w.1.txt,.int m)]):=dW b _;have E:Up [d] H (G.set d (.bD (fT w.1.txt (.int m) []))):=qr.t (Up.s1 b _);generalize (G.set d (.bD (fT w.1.txt (.int m) [])))=G at i A E ⊢;refine fK (MD (AZ (K0:=λ(_:Int) _=>True) i p.nx (U rfl) ?_));have I:=E.st D (bQ [.tok w r1 a,x] (1+1) r c);have S:dz (G.set H.length (bQ [.tok w r1 a,x] (1+1) r c)) H.length [.tok w r1 a,x] 2 r c:=dW i _;have N:(G.set H.length (bQ [.tok w r1 a,x] (1+1) r c))[d]?=Y (.bD [(w.1.txt,.int m)]):=by rw[WC (aaU L)];exact A
     refine Ut (h.bd I λv F e h=>?_);refine fL (MI (K0:=λ(_:Int) _=>True) (e.g S) p.nx.nx (U rfl) ?_);exact cW (v:=.lst (iA [v])) (λK X k=>k) (h F (I.t e.u) (e.g N))
theorem sn(h:G[a]?=x)(e:b≠a):(G.set b m)[a]?=x:=by rw[WC e];exact h
theorem mB(h:a≠b):bJ a [b]=LB:=by
 show cond (LK a b) W LB=LB;cases q:LK a b with|false=>rfl|true=>exact(h (VH q)).elim
theorem sV(h:a≠b)(e:a≠c):bJ a [b,c]=LB:=by
 show cond (LK a b) W (bJ a [c])=LB;cases q:LK a b with|false=>exact mB e|true=>exact(h (VH q)).elim
theorem QY(h:bJ a [b,c]=LB):bJ a [b]=LB:=by
 have h:cond (LK a b) W (bJ a [c])=LB:=h;cases q:LK a b with
 |true=>rw[q]at h;exact qK h
 |false=>show cond (LK a b) W LB=LB;rw[q];rfl
theorem Up.set(h:Up ps H G)(e:bJ d ps=W):Up ps H (G.set d m):=λk x e' n=>by
 rw[WC λq=>by rw[q,n]at e;exact bL e];exact h k x e' n
def pB(b:List Int)(a:List (Str×O)):List Itm->Res (List Int×List (Str×O)×List Itm)
 | []=>.ok (b,a,[])
 |it::r=>cond (gN eC (it::r)) ((wt a b.length it).bind λq=>gk (bf (b++q.1) 1000) (pB (b++q.1) q.2 r)) (.ok (b,a,it::r))
def kq(rs:List Int):List Itm->Res (List Int×List Itm)
 | []=>.ok (rs,[])
 |it::r=>cond (gN dN (it::r)) ((qq it).bind λks=>gk (bf (rs++ks) 1000) (kq (rs++ks) r)) (.ok (rs,it::r))
def pD(t:List Itm):Res ((List Int×List Int)×List (Str×O)×List Itm):=(pB [] [] t).bind λq=>(kq [] q.2.2).bind λu=>.ok ((q.1,u.1),q.2.1,u.2)
def aP(q:List Int×List Int):O:=.tup [.tup (iA q.1),.tup (iA q.2)]
def oL(is:List Itm)(d j r c:Nat)(K:bj)(q:(List Int×List Int)×List (Str×O)×List Itm)(G:List MO):Prop :=∀a,Ps is a q.2.2->dz G j is a r c->G[d]?=Y (.bD q.2.1)->K (aP q.1) G
theorem Ea(h:gN q (it::t)=W)(hq:(iK == q)=LB):∃a is r c,it = .br (a::is) r c:=by
 cases it with
 |tok=>exact bL h
 |br is r c =>
  have h:(eJ (.br is r c) == q)=W:=h;cases is with
  |nil=>rw[show eJ (.br [] r c)=iK from rfl,hq]at h;exact bL h
  |cons a is=>exact⟨a,is,r,c,rfl⟩
theorem B9(l:List Int):(iA l).length=l.length:=QC ..
theorem Qx(h:H[k]?=Y (.lst (iA l)))(f:bf l 1000=W):iZ (.ref k) H=Y (.int l.length):=by
 rw[nD h (uk f),B9]
inductive XB (is:List Itm) (j d pa pb r c:Nat) (H:List MO) (K:bj) (X:KX) (t:List Itm) (e:En) (G:List MO):Prop
 |mk (k:Nat) (ps:List Int) (ids:List (Str×O)) (he:e=[Y (.ref j),Y (.ref d),Y (.ref pa),Y (.ref pb)]) (p:Ps is k t) (hj:dz G j is k r c) (hd:G[d]?=Y (.bD ids)) (ha:G[pa]?=Y (.lst (iA ps))) (hb:G[pb]?=Y (.lst [])) (le:Up [d,j] H G) (hps:bf ps 1000=W)
  (h:jZ [d,j] H (oL is d j r c K) X ((pB ps ids t).bind λq=>(kq [] q.2.2).bind λu=>.ok ((q.1,u.1),q.2.1,u.2)))
inductive XA (is:List Itm) (j d pa pb r c:Nat) (ids:List (Str×O)) (ps:List Int) (H:List MO) (K:bj) (X:KX) (t:List Itm) (e:En) (G:List MO):Prop
 |mk (k:Nat) (rs:List Int) (he:e=[Y (.ref j),Y (.ref d),Y (.ref pa),Y (.ref pb)]) (p:Ps is k t) (hj:dz G j is k r c) (hd:G[d]?=Y (.bD ids)) (ha:G[pa]?=Y (.lst (iA ps))) (hb:G[pb]?=Y (.lst (iA rs))) (le:Up [d,j] H G) (hrs:bf rs 1000=W)
  (h:jZ [d,j] H (oL is d j r c K) X ((kq rs t).bind λu=>.ok ((ps,u.1),ids,u.2)))
theorem agt(dj:d≠j)(jn:pa≠j)(dn:pa≠d)(ab:pa≠pb)(y:pb≠j)(M:pb≠d)(n2:H[pb]?=LA)(hps:bf ps 1000=W)(p:Ps is k t)(l:dz G0 j is k r c)(I:G0[d]?=Y (.bD ids))(E:G0[pa]?=Y (.lst (iA ps)))(hb:G0[pb]?=Y (.lst []))(le:Up [d,j] H G0)(h:jZ [d,j] H (oL is d j r c K) X ((kq [] t).bind λu=>.ok ((ps,u.1),ids,u.2))): ah aqb (aU (ar [n6 aD,n6 ba])) [Y (.ref j),Y (.ref d),Y (.ref pa),Y (.ref pb)] G0 (eA K) (λC fs _ H=>X C fs H):=by
 show iq _ _ _ _ _ _;refine Dl (λt=>t.length) (XA is j d pa pb r c ids ps H K X) ?_ t ?_ ?_
 .intro t e G go T z;cases z with
  |mk k rs he p l I E hb le hrs h =>
  subst he;have hi:=HH (e:=[Y (.ref j),Y (.ref d),Y (.ref pa),Y (.ref pb)]) (o:=Loc 0) (q:=dN) l p (U rfl);refine bc (b:=gN dN t) (λhq=>?_) λhq=>?_
  .rw[hq]at hi;refine hi _ _ (cT rfl ?_);cases t with
   |nil=>exact bL hq
   |cons it f =>
    have h:jZ [d,j] H (oL is d j r c K) X ((cond (gN dN (it::f)) ((qq it).bind λks=>gk (bf (rs++ks) 1000) (kq (rs++ks) f)) (.ok (rs,it::f))).bind λu=>.ok ((ps,u.1),ids,u.2)):=h;rw[hq]at h;simp only[cond_true,Res.AU,Res.BR]at h;have i:=p.sm;refine CU (Ea hq rfl) λh0 a L D B=>?_;subst B;refine ir (U rfl) (ie hb) vX ?_;have N:=sn (m:=bQ is (k+1) r c) E (aaU jn);have Q:=sn (m:=bQ is (k+1) r c) hb (aaU y);have S:=sn (m:=bQ is (k+1) r c) I (aaU dj);have Z:dz (G.set j (bQ is (k+1) r c)) j is (k+1) r c:=dW l _;have A:=le.set (d:=j) (m:=bQ is (k+1) r c) (by show cond (LK j d) W (cond (LK j j) W LB)=W;rw[ajT];cases LK j d<;>rfl);have w:Le (G.set j (bQ is (k+1) r c)) ((G.set j (bQ is (k+1) r c)++[bQ a 0 L D]).set (G.set j (bQ is (k+1) r c)).length (bQ a a.length L D)):=(Le.n _ _).st (jE _) _;refine M6 (G:=(G.set j (bQ is (k+1) r c)++[bQ a 0 L D]).set (G.set j (bQ is (k+1) r c)).length (bQ a a.length L D)) (t:=a) (λK' X' hk=>?_) (Ps.AS i).s (h.bd (A.t w.u) λks F e h=>?_)
    .exact A0 l p (U rfl) (JB i (MG (o:=aW (.ref (G.set j (bQ is (k+1) r c)).length)) (e:=[]) (eG _ _) (Ps.AS i) aq hk))
    .refine bg h.gr λhg h=>?_;have x:=e.g (w.g Q);refine oI (xW x rfl (by rw[←sM];exact uk hg)) ?_;refine T f _ _ (ajj _) ⟨k+1,rs++ks,rfl,p.nx,sn (e.g (w.g Z)) y,sn (e.g (w.g S)) M,sn (e.g (w.g N)) (aaU ab),?_,((A.t w.u).t e.u).st n2 _,hg,h⟩;rw[dW x,sM]
  .rw[hq]at hi;refine hi _ _ (cF rfl ?_);have h:jZ [d,j] H (oL is d j r c K) X (.ok ((ps,rs),ids,t)):=by
    cases t with
    |nil=>exact h
    |cons it f =>
     have h:jZ [d,j] H (oL is d j r c K) X ((cond (gN dN (it::f)) ((qq it).bind λks=>gk (bf (rs++ks) 1000) (kq (rs++ks) f)) (.ok (rs,it::f))).bind λu=>.ok ((ps,u.1),ids,u.2)):=h;rw[hq]at h;exact h
   exact cW (v:=aP (ps,rs)) (cA (ai (EJ (U rfl) (kX E) (uk hps)) (ai (EJ (U rfl) (kX hb) (uk hrs)) aw)) rfl) (h G le k p l I)
 .have:=p.len;have:=p.s;show t.length < 3000;lia
 .exact⟨k,[],rfl,p,l,I,E,hb,le,rfl,h⟩
theorem agw(p:Ps is k t)(x:dz H j is k r c)(w:H[d]?=Y (.bD []))(h:jZ [d,j] H (oL is d j r c K) X (pD t)):yD [.ref j,.ref d] H K X:=by
 unfold yD;refine fun2 (iL ?_);have C:=jE H;have dj:d≠j:=λq=>by rw[q]at w;rw[show H[j]?=Y (bQ is k r c) from x]at w;cases w
 have T:H.length≠j:=λq=>by rw[q]at C;rw[show H[j]?=Y (bQ is k r c) from x]at C;exact fZ C
 have dn:H.length≠d:=λq=>by rw[q,w]at C;exact fZ C
 have E:H[(H++[MO.lst []]).length]?=LA:=by rw[VS,LN];lia
 have S:H.length≠(H++[MO.lst []]).length:=by rw[LN];simp only[VN,aaT];lia
 have A:(H++[MO.lst []]++[MO.lst []])[H.length]?=Y (.lst []):=(Le.n _ _).g (eG H _);have hb:(H++[MO.lst []]++[MO.lst []])[(H++[MO.lst []]).length]?=Y (.lst []):=eG _ _;have le:Up [d,j] H (H++[MO.lst []]++[MO.lst []]):=(Up.r.nn _).nn _;have f:dz (H++[MO.lst []]++[MO.lst []]) j is k r c:=(Le.n _ _).g ((Le.n _ _).g x);have a:(H++[MO.lst []]++[MO.lst []])[d]?=Y (.bD []):=(Le.n _ _).g ((Le.n _ _).g w);show ah (iq _ _) _ [Y (.ref j),Y (.ref d),Y (.ref H.length),Y (.ref (H++[MO.lst []]).length)] (H++[.lst []]++[.lst []]) _ _;generalize (H++[MO.lst []]).length=Z at E S hb ⊢;generalize H.length=pa at C T dn S A ⊢;have Q:Z≠j:=λq=>by rw[q]at E;rw[show H[j]?=Y (bQ is k r c) from x]at E;exact fZ E
 have I:Z≠d:=λq=>by rw[q,w]at E;exact fZ E
 generalize (H++[MO.lst []]++[MO.lst []])=G0 at A hb le f a ⊢;refine Dl (λt=>t.length) (XB is j d pa Z r c H K X) ?_ t ?_ ?_
 .intro t e G go hgo z;cases z with
  |mk k l i he p x w A hb le N h =>
  subst he;have hi:=HH (e:=[Y (.ref j),Y (.ref d),Y (.ref pa),Y (.ref Z)]) (o:=Loc 0) (q:=eC) x p (U rfl);refine bc (b:=gN eC t) (λhq=>?_) λhq=>?_
  .rw[hq]at hi;refine hi _ _ (cT rfl ?_);cases t with
   |nil=>exact bL hq
   |cons it y =>
    have h:jZ [d,j] H (oL is d j r c K) X ((cond (gN eC (it::y)) ((wt i l.length it).bind λq=>gk (bf (l++q.1) 1000) (pB (l++q.1) q.2 y)) (.ok (l,i,it::y))).bind λq=>(kq [] q.2.2).bind λu=>.ok ((q.1,u.1),q.2.1,u.2)):=h;rw[hq]at h;simp only[cond_true,Res.AU,Res.BR]at h;refine ir (U rfl) (ie A) vX ?_;refine A0 x p (U rfl) ?_;have B:=sn (m:=bQ is (k+1) r c) A (aaU T);have M:=sn (m:=bQ is (k+1) r c) hb (aaU Q);have a:=sn (m:=bQ is (k+1) r c) w (aaU dj);have f:dz (G.set j (bQ is (k+1) r c)) j is (k+1) r c:=dW x _;have D:=le.set (d:=j) (m:=bQ is (k+1) r c) (by show cond (LK j d) W (cond (LK j j) W LB)=W;rw[ajT];cases LK j d<;>rfl);generalize (G.set j (bQ is (k+1) r c))=G1 at B M a f D ⊢;refine kK (xs:=[.ref d,.int l.length]) (ai (U rfl) (ai (dy (U rfl) (Qx B N)) aw)) ?_;refine adk p.sm a (h.Y8 D (λ_=>QY) λq F e h BU=>?_);refine bg h.gr λhg h=>?_;have L:=e _ _ B (mB dn);refine oI (xW L rfl (by rw[←sM];exact uk hg)) ?_;refine hgo y _ _ (ajj _) ⟨k+1,l++q.1,q.2,rfl,p.nx,sn (e _ _ f (mB (aaU dj))) T,sn BU dn,?_,sn (e _ _ M (mB I)) S,(D.t (e.sub λ_=>QY)).st C _,hg,h⟩;rw[dW L,sM]
  .rw[hq]at hi;refine hi _ _ (cF rfl ?_);have h:jZ [d,j] H (oL is d j r c K) X ((kq [] t).bind λu=>.ok ((l,u.1),i,u.2)):=by
    cases t with
    |nil=>exact h
    |cons it y =>
     have h:jZ [d,j] H (oL is d j r c K) X ((cond (gN eC (it::y)) ((wt i l.length it).bind λq=>gk (bf (l++q.1) 1000) (pB (l++q.1) q.2 y)) (.ok (l,i,it::y))).bind λq=>(kq [] q.2.2).bind λu=>.ok ((q.1,u.1),q.2.1,u.2)):=h;rw[hq]at h;exact h
   exact agt dj T dn S Q I E N p x w A hb le h
 .have:=p.len;have:=p.s;show t.length < 3000;lia
 .exact⟨k,[],[],rfl,p,f,a,A,hb,le,rfl,h⟩
end
abbrev Kd:=List Int×List Int
noncomputable def jr:List Int->List Int->Bool
 | [],m=>(match m with | []=>W|_::_=>LB)
 |a::l,m=>match m with | []=>LB|b::m=>cond (a == b) (jr l m) LB
def cV(a b:Kd):Bool:=cond (jr a.1 b.1) (jr a.2 b.2) LB
section
variable{H:List MO}
theorem zM(n:Nat):∀l:List Int,eQ (toPy H (n+1)) (iA l)=Y (l.map .int):=by
 intro l;induction l with
 |nil =>
  exact rfl
 |cons a l b =>
  exact by
   show((eQ (toPy H (n+1)) (iA l)).bind λds=>Y (.int a::ds))=_;rw[b];rfl
theorem t9:∀l m:List Int,ahT (l.map .int) (m.map .int)=jr l m
 | [],[]=>rfl
 | [],_::_=>rfl
 |_::_,[]=>rfl
 |a::l,b::m=>by
  show(VV (.int a) (.int b)&&ahT (l.map .int) (m.map .int))=cond (a == b) (jr l m) LB;rw[t9 l m];show((a == b)&&_)=_;cases (a == b)<;>rfl
theorem u9(n:Nat):∀l:List Int,bt (df (n+1)) (l.map .int)=W:=by
 intro l;induction l with
 |nil =>
  exact rfl
 |cons a l b =>
  exact b
theorem zR(q:Kd):toPy H cM (aP q)=Y (.tuple [.tuple (q.1.map .int),.tuple (q.2.map .int)]):=by
 show(((eQ (toPy H 48) (iA q.1)).map ajU).bind λd=>(((eQ (toPy H 48) (iA q.2)).map ajU).bind λd=>Y [d]).bind λds=>Y (d::ds)).map ajU=_;rw[zM 47,zM 47];rfl
theorem zK(q:Kd):df cM (.tuple [.tuple (q.1.map .int),.tuple (q.2.map .int)])=W:=by
 show cond (bt (df 48) (q.1.map .int)) (cond (bt (df 48) (q.2.map .int)) W LB) LB=W;rw[u9 47,u9 47];rfl
theorem ED(a b:Kd):aX (aP a) (aP b) H=Y (cV a b):=by
 have e1:(iG (aP a) (aP b) λa b=>Y (a == b))=LA:=rfl;have e2:((aS (aP a)).bind λx=>(aS (aP b)).bind λy=>Y (x == y))=LA:=rfl;have e:oO (aP a) (aP b) H=LA:=rfl;unfold aX;rw[e1,e2,e];show kj _ _ _=_;unfold kj;rw[zR,zR];show gd (df cM (.tuple [.tuple (a.1.map .int),.tuple (a.2.map .int)])&&df cM (.tuple [.tuple (b.1.map .int),.tuple (b.2.map .int)])) (Y (ahT (a.1.map .int) (b.1.map .int)&&(ahT (a.2.map .int) (b.2.map .int)&&W)))=_;rw[zK,zK,t9,t9];unfold cV;cases jr a.1 b.1<;>cases jr a.2 b.2<;>rfl
end
set_option genCtorIdx true in
inductive iQ where|type|func|table|memory|global|elem|data
noncomputable def iQ.q:iQ->Str | .type=>cZ | .func=>gq | .table=>c5 | .memory=>gR | .global=>gv | .elem=>gS | .data=>gw
noncomputable def iQ.n:iQ->Nat | .type=>0 | .func=>1 | .table=>2 | .memory=>3 | .global=>4 | .elem=>5 | .data=>6
noncomputable def iQ.un:iQ->Str
 | .type=>⟨⟨[117,110,107,110,111,119,110,32,116,121,112,101,32]⟩⟩| .func=>⟨⟨[117,110,107,110,111,119,110,32,102,117,110,99,116,105,111,110,32]⟩⟩
 | .table=>⟨⟨[117,110,107,110,111,119,110,32,116,97,98,108,101,32]⟩⟩| .memory=>⟨⟨[117,110,107,110,111,119,110,32,109,101,109,111,114,121,32]⟩⟩
 | .global=>⟨⟨[117,110,107,110,111,119,110,32,103,108,111,98,97,108,32]⟩⟩| .elem=>⟨⟨[117,110,107,110,111,119,110,32,101,108,101,109,32,115,101,103,109,101,110,116,32]⟩⟩
 | .data=>⟨⟨[117,110,107,110,111,119,110,32,100,97,116,97,32,115,101,103,109,101,110,116,32]⟩⟩
abbrev bV:=iQ->List (Str×Int)
noncomputable def dA(l:List (Str×Int)):List (Str×O):=l.map λp=>(p.1,.int p.2)
def PD(s:Nat):List (Str×O):=[(cZ,.ref (s+4)),(gq,.ref (s+5)),(c5,.ref (s+6)),(gR,.ref (s+7)),(gv,.ref (s+8)),(gS,.ref (s+9)),(gw,.ref (s+10))]
def QR(m:Int):List (Str×O):=[(cZ,.int m),(gq,.int 0),(c5,.int 0),(gR,.int 0),(gv,.int 0),(gS,.int 0),(gw,.int 0)]
structure dm (H:List MO) (s:Nat) (Γ:bV) (ks:List Kd):Prop where
 sp:H[s]?=Y (.inst 770 [(iF,.ref (s+1)),(oF,.ref (s+2)),(eB,.ref (s+3))])
 ids:H[s+1]?=Y (.bD (PD s))
 many:∃m,H[s+2]?=Y (.bD (QR m))
 kinds:H[s+3]?=Y (.lst (ks.map aP))
 tb:∀i:iQ,H[s+4+i.n]?=Y (.bD (dA (Γ i)))
section
variable{K:bj}{X:KX}{H G:List MO}{is:List Itm}{k:Nat}{it:Itm}{t:List Itm}{j r c d s:Nat}{Γ:bV}{ks:List Kd}
theorem dm.up(h:dm H s Γ ks)(u:Up ps H G)(n:∀i,i < 11->bJ (s+i) ps=LB):dm G s Γ ks :=⟨u _ _ h.sp (n 0 (by decide)),u _ _ h.ids (n 1 (by decide)),h.many.elim λm e=>⟨m,u _ _ e (n 2 (by decide))⟩,u _ _ h.kinds (n 3 (by decide)),λi=>u _ _ (h.tb i) (by have:=n (4+i.n) (by cases i<;>decide);rw[←akJ]at this;exact this)⟩
theorem dm.le(h:dm H s Γ ks)(u:Le H G):dm G s Γ ks:=h.up u λ_ _=>rfl
theorem PF(h:H[d]?=Y (.bD fs))(a:look q fs=Y v):aF bd (.ref d) (.str q) H=Y v:=by
 unfold aF;rw[xS h];have e2:listOf H (.ref d)=LA:=by show H[d]?.bind mC=_;rw[h];rfl
 rw[e2];exact a
theorem aea(h:H[d]?=Y (.bD fs)):s9 (.str q) (.ref d) H=Y (!nB (look q fs)):=by
 unfold s9 wU;rw[xS h];have e2:listOf H (.ref d)=LA:=by show H[d]?.bind mC=_;rw[h];rfl
 rw[e2];rfl
theorem QH(q:Str):∀l:List (Str×Int),look q (dA l)=(look q l).map .int:=by
 intro l;induction l with
 |nil =>
  exact rfl
 |cons p l a =>
  exact by
   show cond (eu q p.1) (Y (O.int p.2)) (look q (dA l))=(cond (eu q p.1) (Y p.2) (look q l)).map _;rw[a];cases eu q p.1<;>rfl
def fY(Γ:bV)(i:iQ)(w:Wd)(r c:Nat):Res Int :=cond (eD w.sort) (match look w.txt (Γ i) with|some v=>.ok v|none=>.bad (i.un++w.txt) r c) (Ue w r c)
theorem YK{i:iQ}{w:OW}:aQ (.str i.un) (.str w.1.txt) H=Y (.str (i.un++w.1.txt)):=by
 show alt LA (alt (gd (fits (i.un.cps.toList++w.1.txt.cps.toList)) (Y (O.str (i.un++w.1.txt)))) _)=_;have:fits (i.un.cps.toList++w.1.txt.cps.toList)=W:=cC (by
  rw[LN];have h1:=eg w.2.len;have a:i.un.cps.toList.length<=30:=by cases i<;>decide
  lia)
 rw[this];rfl
theorem Hx{i:iQ}(S:dm H s Γ ks)(h:Out H (λv=>K (.int v)) X (fY Γ i w.1 r c)):jL [.ref s,.str i.q,a8 (.tok w r c)] H K X:=by
 unfold jL;refine j5 ?_;have hi:Ev _ _ _ (O.bool (eD w.1.sort)):=Qb (e:=Y (O.ref s)::Y (.str i.q)::Y (a8 (.tok w r c))::eV 0) (H:=H) (a:=Loc 2) (it:=.tok w r c) SV (U rfl);unfold fY at h;refine bc (b:=eD w.1.sort) (λy=>?_) λy=>?_
 .rw[y]at h hi;refine cu (by walk_at "e") ?_;have m:Ev aqr (Y (O.ref s)::Y (.str i.q)::Y (a8 (.tok w r c))::eV 0) H (.ref (s+4+i.n)):=aV (cR (U rfl) (gh S.sp rfl rfl) rfl) (U rfl) (PF S.ids (by cases i<;>rfl));have l:Ev (au cS [202] [] aD) (Y (O.ref s)::Y (.str i.q)::Y (a8 (.tok w r c))::eV 0) H (.str w.1.txt):=by walk_at "e"
  have f:=aea (q:=w.1.txt) (S.tb i);rw[QH]at f;have h:Out H (λv=>K (.int v)) X (match look w.1.txt (Γ i) with|some v=>.ok v|none=>.bad (i.un++w.1.txt) r c):=h;cases p:look w.1.txt (Γ i) with
  |none =>
   rw[p]at h f;refine ct (bq l m f) (C3 (it:=.tok w r c) rfl ?_ h.pP);exact aV (x:=.str i.un) (by cases i<;>exactλK X k=>k) l YK
  |some v =>
   rw[p]at h f;exact cu (bq l m f) (cW (v:=.int v) (aV m l (PF (S.tb i) (by rw[QH,p];rfl))) (h H Up.r))
 .rw[y]at h hi;exact ct (by walk_at "e") (xm (d7 (ai (U rfl) aw) (ahz h)))
end
def fg(q:Kd):List Kd->Option Nat
 | []=>LA
 |a::r=>cond (cV a q) (Y 0) ((fg q r).map λn=>n+1)
def dU(ks:List Kd)(q:Kd):Nat×List Kd:=match fg q ks with
 |some n=>(n,ks)
 |none=>(ks.length,ks++[q])
section
variable{K:bj}{X:KX}{H G:List MO}{is:List Itm}{k:Nat}{it:Itm}{t:List Itm}{j r c d s:Nat}{Γ:bV}{ks:List Kd}{q:Kd}
theorem Ex{b:Type}{x:Option b}{P:b->Prop}{a:b}(h:x=Y a)(k:P a):eP x P p:=by rw[h];exact k
theorem abr(A:H[s+3]?=Y (.lst (ks.map aP))):∀(t:List Kd) (i n:Nat) (x y:Option O),ks.drop i=t->t.length < n -> (∀m,fg q t=Y m->∀e,Kf (.ret (.int (i+m:Nat))) e H)->(fg q t=LA->∀x y,Kf .next [Y (.ref s),Y (aP q),x,y] H)-> forR (.tp [2,3]) (a9 (aC aX ba ax) (aU aD) bx) Kf XE (s+3) W n i [Y (.ref s),Y (aP q),x,y] H:=by
 intro t;induction t with
 |nil =>
  intro i n x y h l p w;cases n with
  |zero=>cases l
  |succ n =>
   refine oI (a:=ks.map aP) (by rw[A];rfl) ?_;have e:(ks.map aP)[i]?=LA:=by rw[abI,←akP,h];rfl
   rw[e];exact w rfl x y
 |cons a t B =>
  intro i n x y h l p w;cases n with
  |zero=>cases l
  |succ n =>
   refine oI (a:=ks.map aP) (by rw[A];rfl) ?_;have e:(ks.map aP)[i]?=Y (aP a):=by rw[abI,←akP,h];rfl
   refine Ex e (oI (x:=z8 _ _ _) (a:=[Y (.ref s),Y (aP q),Y (.int i),Y (aP a)]) rfl ?_);have f:Ev (aC aX ba ax) [Y (.ref s),Y (aP q),Y (.int i),Y (aP a)] H (cV a q):=bq (U rfl) (U rfl) (ED a q);refine bc (b:=cV a q) (λhb=>?_) λhb=>?_
   .rw[hb]at f;refine oH f (cW (v:=.int i) (U rfl) (p 0 ?_ _));show cond (cV a q) _ _=_;rw[hb];rfl
   .rw[hb]at f;refine j7 f ?_;have z:fg q (a::t)=(fg q t).map λn=>n+1:=by show cond (cV a q) _ _=_;rw[hb];rfl
    refine B (i+1) n _ _ (by rw[ako,h];rfl) (akp l) (λm hm e=>?_) λhm=>w (by rw[z,hm];rfl);have:=p (m+1) (by rw[z,hm];rfl) e;rw[show i+1+m=i+(m+1) by lia];exact this
theorem zl(ks:List Kd):(ks.map aP).length=ks.length:=QC ..
theorem Qv(h:H[k]?=Y (.lst (ks.map aP)))(f:bf ks 1000=W):iZ (.ref k) H=Y (.int ks.length):=by
 rw[nD h (cC (by rw[zl];have:=eg f;lia)),zl]
theorem adj(S:dm H s Γ ks)(f:bf ks 1000=W)(h:∀G,Up [s+2,s+3] H G->dm G s Γ (dU ks q).2->K (.int (dU ks q).1) G):yx [.ref s,aP q] H K X:=by
 unfold yx;refine fun2 ?_;have C:∀{e:En},e[0]?=Y (Y (.ref s))->Ev (au eB [770] [] ak) e H (.ref (s+3)):=λhe=>cR (U he) (gh S.sp rfl rfl) rfl;show tG _ _ _ _ _ _ _;refine cast N1.symm (C rfl _ _ ?_);show oP _ _;refine oI (n8 S.kinds) ?_;unfold dU at h;refine abr S.kinds ks 0 3000 LA LA rfl (by have:=eg f;lia) (λm hm e=>?_) λhm x y=>?_
 .rw[hm]at h;rw[aj8];exact h H Up.r S
 .rw[hm]at h;refine fL (ir (C rfl) (ie S.kinds) l9 (kK (xs:=[aP q]) (ai (U rfl) aw) (oI (oa S.kinds (cC (by rw[zl];have:=eg f;lia))) ?_)));have l:(H.set (s+3) (.lst (ks.map aP++[aP q])))[s+3]?=Y (.lst ((ks++[q]).map aP)):=by rw[dW S.kinds,ajG];rfl
  have b:(H.set (s+3) (.lst (ks.map aP++[aP q])))[s]?=Y (.inst 770 [(iF,.ref (s+1)),(oF,.ref (s+2)),(eB,.ref (s+3))]):=sn S.sp (by lia);refine LJ S.many λm kS=>?_;have a:=sn (m:=.lst (ks.map aP++[aP q])) kS (show s+3≠s+2 by lia);have p:=sn (m:=.lst (ks.map aP++[aP q])) S.ids (show s+3≠s+1 by lia);have z:=λi=>sn (m:=.lst (ks.map aP++[aP q])) (S.tb i) (show s+3≠s+4+i.n by lia);have A:Up [s+2,s+3] H (H.set (s+3) (.lst (ks.map aP++[aP q]))):=Up.r.set (by show cond (LK (s+3) (s+2)) W (cond (LK (s+3) (s+3)) W LB)=W;rw[ajT];cases LK (s+3) (s+2)<;>rfl);generalize (H.set (s+3) (.lst (ks.map aP++[aP q])))=G at l b a p z A ⊢;have w:∀{e:En}{B:List MO},e[0]?=Y (Y (.ref s))->B[s]?=Y (.inst 770 [(iF,.ref (s+1)),(oF,.ref (s+2)),(eB,.ref (s+3))])->B[s+3]?=Y (.lst ((ks++[q]).map aP))->Ev aq2 e B (.int (ks.length+1:Nat)):=λhe h1 D=>dy (cR (U he) (gh h1 rfl rfl) rfl) (by
   rw[nD D (cC (by rw[QC,LN];simp only[VN,aaT];have:=eg f;lia)),QC,LN];rfl)
  refine I6 (w rfl b l) (cR (U rfl) (gh b rfl rfl) rfl) aq (RW a rfl) ?_;refine cW (v:=.int ks.length) (aV (w rfl (sn b (by lia)) (sn l (by lia))) aq ?_) (h _ (A.set (by show cond (LK (s+2) (s+2)) W _=W;rw[ajT];rfl)) ?_)
  .show Y (O.int ((ks.length+1:Nat) - 1:Int))=_;rw[show((ks.length+1:Nat) - 1:Int)=ks.length by lia]
  .exact⟨sn b (by lia),sn p (by lia),⟨(ks.length+1:Nat),dW a _⟩,sn l (by lia),λi=>sn (z i) (by lia)⟩
end
def vp(Γ:bV)(t:List Itm):Res (Option Int×List Itm):=cond (gN cZ t) (match t with
 | .br (_ :: .tok w r1 c1::is') _ _::t'=>(fY Γ .type w.1 r1 c1).bind λn=>(match is' with | []=>.ok (Y n,t')|x::_=>.bad cI x.r x.c)
 | .br [_] r c::_=>.bad cI r c
 |_=>.stuck) (.ok (LA,t))
noncomputable def rT:List Itm->Nat | []=>0|it::_=>it.r
noncomputable def AX:List Itm->Nat | []=>0|it::_=>it.c
def kO(ks:List Kd)(n:Int)(q:Kd)(r c:Nat):Res Unit:=cond (cV q ([],[])) (.ok ())
 (cond (decide ((ks.length:Int)<=n)) (match toStr n with|some z=>gk (bf z.cps.toList 100) (.bad (nQ++z) r c)|none=>.stuck)
  (match n with | .ofNat m=>(match ks[m]? with|some k2=>cond (cV k2 q) (.ok ()) (.bad nO r c)|none=>.stuck)| .negSucc _=>.stuck))
def vn(Γ:bV)(ks:List Kd)(t:List Itm):Res (Int×List (Str×O)×List Itm×List Kd) :=
 (vp Γ t).bind λu=>(pD u.2).bind λq=>match u.1 with
  |none=>.ok (((dU ks q.1).1:Int),q.2.1,q.2.2,(dU ks q.1).2)
  |some n=>(kO ks n q.1 (rT t) (AX t)).bind λ_=>.ok (n,q.2.1,q.2.2,ks)
section
variable{K:bj}{X:KX}{H G:List MO}{is:List Itm}{k:Nat}{it:Itm}{t:List Itm}{j r c d s:Nat}{Γ:bV}{ks:List Kd}{q:Kd}
def oM(is:List Itm)(s:Nat)(Γ:bV)(K:bj)(q:Int×List (Str×O)×List Itm×List Kd)(G:List MO):Prop :=∀a d,Ps is a q.2.2.1->G[d]?=Y (.bD q.2.1)->dm G s Γ q.2.2.2->K (.tup [.int q.1,.ref d,.int a]) G
theorem dY.Ji{a b:Type}{K:a->List MO->Prop}{K0:b->List MO->Prop}(h:dY ps es H K X (.bad why r c))(le:Up es H G):Out G K0 X (.bad why r c):=λF e=>h F (le.t (Le.u e))
theorem Le.no(le:Le H G):H[G.length]?=LA:=by
 cases q:H[G.length]? with
 |none=>rfl
 |some m=>have:=le.g q;rw[jE]at this;exact bR this
theorem Ee{as:List (EM O)}(b:Ev a e H x)(hm:lJ n tab x H=Y F)(h:Args as e H (λxs H=>F (x::xs) H K X) X):aH n tab a as e H K X:=b _ _ (by
 show eP _ _ _;rw[hm];exact h)
theorem YV{K:List O->List MO->Prop}(h:m e H (λy G=>K [v,y] G) X):Args [aW v,m] e H K X:=h
theorem CF(a b:Kd):eN (aP a) (aP b) H=Y (!cV a b):=by unfold eN;rw[ED];rfl
theorem PG(h:H[k]?=Y (.lst (ks.map aP)))(f:bf ks 1000=W)(hm:ks[m]?=Y k2):aF ay (.ref k) (.int (m:Nat)) H=Y (aP k2) :=HL h (by rw[abI,hm];rfl) (LR (Sa.mp hm).1 (LI (eg f) (by decide)))
theorem C4{as:List (EM O)}(h:M e H (λv G=>Args as e G (λxs G=>bP (fits (v::xs)) (KF' (.ret (.tup (v::xs))) e G)) (xE XE e)) (xE XE e)):aU (ar (M::as)) e H KF' XE:=by
 conv=>whnf
 exact h
theorem aa6(b:Ev a e H (.int i))(h:toStr i=Y z):Ev (je a) e H (.str z):=λK X k=>b _ _ (oI (a:=z) h k)
theorem I7{m:EM O}{e:En}{C:SM}{K:KF}{X:KE}(k:aU m e H K X):ah (aU m) C e H K X:=k
theorem Df{B:SM}{K:KF}{X:KE}{e e':En}{H H':List MO}(he:e'=e)(a:H'=H)(k:B e H K X):mJ B K X .next e' H':=by subst he;subst a;exact k
theorem ahy(p:Ps is k t)(S:dm H s Γ ks)(hks:bf ks 1000=W)(h:gI s H (oM is s Γ K) X (vn Γ ks t)):BB [.ref s,.lst (aL is),.int k] H K X:=by
 unfold BB;unfold vn at h;refine j5 (i6 (xs:=[.int (rT t),.int (AX t)]) ?_ rfl (iL ?_))
 .induction t using cL with
  |nil=>exact pW (by walk_at "e") (cA (ai aq (ai aq aw)) rfl)
  |cons it t'=>exact rg (by walk_at "e") (show Ev _ _ _ (O.tup [O.int it.r,O.int it.c]) by walk_at "e")
 generalize rT t=f at h ⊢;generalize AX t=c0 at h ⊢;show aB vG _ _ _ _ _;refine d7 (ai (U rfl) (ai (U rfl) (ai (U rfl) aw))) (Qi ?_);have T:=jE H;have n2:H[(H++[bQ is 0 f c0]).length]?=LA:=by rw[VS,LN];omega
 have jd:H.length≠(H++[bQ is 0 f c0]).length:=by rw[LN];simp only[VN,aaT];omega
 have I:dz (H++[bQ is 0 f c0]++[MO.bD []]) H.length is 0 f c0:=(Le.n _ _).g (eG H _);have Q:(H++[bQ is 0 f c0]++[MO.bD []])[(H++[bQ is 0 f c0]).length]?=Y (.bD []):=eG _ _;have le:Le H (H++[bQ is 0 f c0]++[MO.bD []]):=(Up.r.nn _).nn _;conv=>whnf
 refine oI (qD I rfl) ?_;refine Df (e:=[Y (.ref s),Y (.lst (aL is)),Y (.int k),Y (.int f),Y (.int c0),Y (.ref H.length),Y (.ref (H++[bQ is 0 f c0]).length),Y .none,LA,LA]) (H:=(H++[bQ is 0 f c0]++[MO.bD []]).set H.length (bQ is k f c0)) rfl rfl ?_;generalize (H++[bQ is 0 f c0]).length=d at n2 jd Q ⊢;generalize H.length=j at T jd I ⊢;generalize (H++[bQ is 0 f c0]++[MO.bD []])=G at I Q le ⊢;have I:dz (G.set j (bQ is k f c0)) j is k f c0:=dW I _;have Q:=sn (m:=bQ is k f c0) Q jd;have le:=le.st T (bQ is k f c0);generalize (G.set j (bQ is k f c0))=G at I Q le ⊢;have L:∀{k1:Nat}{t1:List Itm}{u:Option Int}{x8:Option O}{G:List MO},Ps is k1 t1->dz G j is k1 f c0->G[d]?=Y (.bD [])->Le H G ->
   gI s H (oM is s Γ K) X ((pD t1).bind λq=>match u with
    |none=>.ok (((dU ks q.1).1:Int),q.2.1,q.2.2,(dU ks q.1).2)
    |some n=>(kO ks n q.1 f c0).bind λ_=>.ok (n,q.2.1,q.2.2,ks)) ->
   ap1 [Y (.ref s),Y (.lst (aL is)),Y (.int k),Y (.int f),Y (.int c0),Y (.ref j),Y (.ref d),Y (zH u),x8,LA] G (eA K) (λC fs _ H=>X C fs H):=by
  intro k1 t1 u x8 G p I Q le h;refine fK (d7 (ai (U rfl) (ai (U rfl) aw)) ?_);have D:∀{F:List MO},Up [d,j] G F->Le H F:=λe a m ea _=>by
   refine e a m (le a m ea rfl) (sV (λq=>?_) λq=>?_)
   .rw[q]at ea;rw[ea]at n2;exact fZ n2
   .rw[q]at ea;rw[ea]at T;exact fZ T
  refine agw p I Q (h.xV (λF e=>D e) λq F e h k' p' hj' hd'=>?_);have S':=S.le (D e);have kE:∀{e:En},e[0]?=Y (Y (.ref s))->Ev (au eB [770] [] ak) e F (.ref (s+3)):=λhe=>cR (U he) (gh S'.sp rfl rfl) rfl;have aE:∀{e:En}{F':List MO},e[5]?=Y (Y (.ref j))->dz F' j is k' f c0->Ev aqZ e F' (.int k'):=λhe h=>cR (U he) (wj h) rfl;have js:bJ j [s+2,s+3]=LB:=sV (λq=>by refine LJ S.many λm e=>?_;rw[q,e]at T;exact fZ T) (λq=>by rw[q,S.kinds]at T;exact fZ T);have ds:bJ d [s+2,s+3]=LB:=sV (λq=>by refine LJ S.many λm e=>?_;rw[q,e]at n2;exact fZ n2) (λq=>by rw[q,S.kinds]at n2;exact fZ n2);induction u using cO with
  |none =>
   refine ct (by walk_at "e") (I7 (C4 (dR (U rfl) (de S'.sp rfl) (ai (U rfl) aw) ?_)));refine adj S' hks λF2 e2 S2=>?_;refine kK (xs:=[.ref d,.int k']) (ai (U rfl) (ai (aE rfl (e2 _ _ hj' js)) aw)) (bI rfl ?_);exact h F2 ((D e).u.t e2) k' d p' (e2 _ _ hd' ds) S2
  |some n =>
   have L:gI s H (oM is s Γ K) X (.ok (n,q.2.1,q.2.2,ks))->∀{e:En},e[5]?=Y (Y (.ref j))->e[6]?=Y (Y (.ref d))->e[7]?=Y (Y (.int n))->(aU (ar [ee,cq,aqZ])) e F (eA K) (λC fs _ H=>X C fs H):=λh _ h5 h6 h7=>cW (v:=.tup [.int n,.ref d,.int k']) (cA (ai (U h7) (ai (U h6) (ai (aE h5 hj') aw))) rfl) (h F (D e).u k' d p' hd' S');rw[show zH (Y n)=O.int n from rfl];refine cu (by walk_at "e") ?_;have hz:∀{e:En},Ev (ar [ar [],ar []]) e F (aP ([],[])):=λK X k=>k;have h:gI s H (oM is s Γ K) X ((kO ks n q.1 f c0).bind λ_=>.ok (n,q.2.1,q.2.2,ks)):=h;unfold kO at h;refine bc (b:=cV q.1 ([],[])) (λhb=>?_) λhb=>?_
   .rw[hb]at h;exact cu (bq (t:=LB) (U rfl) hz (by rw[CF,hb];rfl)) (L h rfl rfl rfl)
   .rw[hb]at h;refine ct (bq (t:=W) (U rfl) hz (by rw[CF,hb];rfl)) (fA ?_);have hl:=Qv S'.kinds hks;refine bc (b:=decide ((ks.length:Int)<=n)) (λhc=>?_) λhc=>?_
    .rw[hc]at h;have h:gI s H (oM is s Γ K) X ((match toStr n with|some z=>gk (bf z.cps.toList 100) (Res.bad (nQ++z) f c0)|none=>Res.stuck).bind λ(_:Unit)=>.ok (n,q.2.1,q.2.2,ks)):=h;cases hz:toStr n with
     |none=>rw[hz]at h;exact h.elim
     |some z =>
      rw[hz]at h;have h:gI s H (oM is s Γ K) X ((gk (bf z.cps.toList 100) (Res.bad (nQ++z) f c0)).bind λ(_:Unit)=>.ok (n,q.2.1,q.2.2,ks)):=h;rw[Res.BR]at h;refine bg h.gr λhz1 h=>?_;have had:aQ (.str nQ) (.str z) F=Y (.str (nQ++z)):=by
       show alt LA (alt (gd (fits (nQ.cps.toList++z.cps.toList)) (Y (O.str (nQ++z)))) _)=_;have:fits (nQ.cps.toList++z.cps.toList)=W:=cC (by
        rw[LN];have h1:=eg hz1;have h2:nQ.cps.toList.length<=30:=by decide
        omega)
       rw[this];rfl
      exact ct (bq (U rfl) (dy (kE rfl) hl) (zI hc)) (C2 (ai (aV aq (aa6 (U rfl) hz) had) (ai (U rfl) (ai (U rfl) aw))) (h.sub (D e)).pP)
    .rw[hc]at h;refine cu (bq (U rfl) (dy (kE rfl) hl) (zI hc)) ?_;have h:gI s H (oM is s Γ K) X ((match n with | .ofNat m=>(match ks[m]? with|some k2=>cond (cV k2 q.1) (Res.ok ()) (Res.bad nO f c0)|none=>Res.stuck)| .negSucc _=>Res.stuck).bind λ(_:Unit)=>.ok (n,q.2.1,q.2.2,ks)):=h;induction n using Int.casesOn with
     |negSucc m=>exact h.elim
     |ofNat m =>
      have h:gI s H (oM is s Γ K) X ((match ks[m]? with|some k2=>cond (cV k2 q.1) (Res.ok ()) (Res.bad nO f c0)|none=>Res.stuck).bind λ(_:Unit)=>.ok (.ofNat m,q.2.1,q.2.2,ks)):=h;cases hm:ks[m]? with
      |none=>rw[hm]at h;exact h.elim
      |some k2 =>
       rw[hm]at h;have h:gI s H (oM is s Γ K) X ((cond (cV k2 q.1) (Res.ok ()) (Res.bad nO f c0)).bind λ(_:Unit)=>.ok (.ofNat m,q.2.1,q.2.2,ks)):=h;have hx:aF ay (.ref (s+3)) (.int (m:Nat)) F=Y (aP k2):=PG S'.kinds hks hm;refine bc (b:=cV k2 q.1) (λM=>?_) λM=>?_
       .rw[M]at h;exact cu (bq (t:=LB) (aV (kE rfl) (U rfl) hx) (U rfl) (by rw[CF,M];rfl)) (L h rfl rfl rfl)
       .rw[M]at h;exact ct (bq (t:=W) (aV (kE rfl) (U rfl) hx) (U rfl) (by rw[CF,M];rfl)) (C2 (ai aq (ai (U rfl) (ai (U rfl) aw))) (h.sub (D e)).pP)
 have hi:=HH (e:=[Y (.ref s),Y (.lst (aL is)),Y (.int k),Y (.int f),Y (.int c0),Y (.ref j),Y (.ref d),Y .none,LA,LA]) (o:=Loc 5) (q:=cZ) I p (U rfl);unfold vp at h;refine bc (b:=gN cZ t) (λhq=>?_) λhq=>?_
 .rw[hq]at h hi;induction t using cL with
  |nil=>exact bL hq
  |cons it t' =>
   have psm:=p.sm;refine CU (Ea hq rfl) λh0 y r2 c2 zr_0=>?_;subst zr_0;refine ct hi (fA (fK (MD (A0 I p (U rfl) (JB psm ?_)))));have B:dz (G.set j (bQ is (k+1) f c0)) j is (k+1) f c0:=dW I _;have A:=sn (m:=bQ is (k+1) f c0) Q jd;have l:=le.st T (bQ is (k+1) f c0);generalize (G.set j (bQ is (k+1) f c0))=E at B A l ⊢;have N:dz (E++[bQ y 0 r2 c2]) E.length y 0 r2 c2:=eG _ _;have n3:=l.no;have nj:E.length≠j:=λq=>by have:=jE E;rw[q]at this;rw[show E[j]?=Y _ from B]at this;exact fZ this
   have nd:E.length≠d:=λq=>by have:=jE E;rw[q,A]at this;exact fZ this
   have B:dz (E++[bQ y 0 r2 c2]) j is (k+1) f c0:=(Le.n _ _).g B;have A:=(Le.n E (bQ y 0 r2 c2)).g A;have l:Le H (E++[bQ y 0 r2 c2]):=l.t (Le.n _ _);generalize (E++[bQ y 0 r2 c2])=G2 at B N A l ⊢;generalize E.length=j2 at N n3 nj nd ⊢;have pb:=Ps.AS psm;have S2:=S.le l;refine fA (fK (Ee (U rfl) (de S2.sp rfl) (YV ?_)));induction y using cL with
   |nil=>exact AZ (K0:=λ(_:Int) _=>True) N pb (U rfl) (dY.Ji h l)
   |cons it2 Z=>induction it2 using Itm.casesOn with
   |br=>exact h.elim
   |tok w r1 c1 =>
    refine A0 N pb (U rfl) ?_;have h:gI s H (oM is s Γ K) X (((fY Γ .type w.1 r1 c1).bind λn=>(match Z with | []=>.ok (Y n,t')|x::_=>.bad cI x.r x.c)).bind λu=>(pD u.2).bind λq=>match u.1 with
     |none=>.ok (((dU ks q.1).1:Int),q.2.1,q.2.2,(dU ks q.1).2)
     |some n=>(kO ks n q.1 f c0).bind λ_=>.ok (n,q.2.1,q.2.2,ks)):=h
    rw[Res.AU]at h;have qr:=l.st n3 (bQ (.tok w r1 c1::Z) (0+1) r2 c2);refine Hx (i:=.type) (S.le qr) (h.bd qr λn F e h=>?_);have hj3:dz F j2 (.tok w r1 c1::Z) 1 r2 c2:=e.g (dW N _);refine fL ?_;induction Z using cL with
    |nil=>exact ZH hj3 pb.nx (U rfl) (L (u:=Y n) (x8:=Y (.ref j2)) p.nx (e.g (sn B nj)) (e.g (sn A nd)) (qr.t e) h)
    |cons x is4=>exact MI (K0:=λ(_:Int) _=>True) hj3 pb.nx (U rfl) (dY.Ji h (qr.t e))
 .rw[hq]at h hi;exact cu hi (L (u:=LA) p I Q le h)
end
def tq(r s d:Nat):MO:=.inst 695 [(d9,.ref s),(gB,.ref d),(fQ,.ref (r+1)),(fO,.ref (r+2)),(iX,.ref (r+3))]
abbrev Au:=Option (Nat×Nat)
noncomputable def adm(it:Itm):Nat×Nat:=(it.r,it.c)
def HW(X:KX)(s:Nat)(Γ:bV)(ks:List Kd)(G:List MO)(P:Prop):Au->Prop
 |none=>P
 |some (r,c)=>dm G s Γ ks->X 164 (n9 cI r c) G
abbrev Tt:=Int×List Itm×List Kd×Au
def T7(t:List Itm)(q:Int×List (Str×O)×List Itm×List Kd):Res Tt:=gk (bf q.2.1 10) (cond (oZ q.2.1) (match t with|it::_=>.ok (0,t,q.2.2.2,Y (adm it))| []=>.stuck) (.ok (q.1,q.2.2.1,q.2.2.2,LA)))
def gp(Γ:bV)(ks:List Kd)(t:List Itm):Res Tt:=(vn Γ ks t).bind (T7 t)
noncomputable def Ig:Itm->Bool | .br (_::_::_) _ _=>W|_=>LB
def jA(acc:List Int)(f P R:Bool):List Itm->Res (List Int×Bool×List Itm)
 | []=>.ok (acc,P,[])
 |it::r=>cond (eJ it == dN) ((qq it).bind λks=>gk (bf (acc++ks) 1000) (jA (acc++ks) LB P W r))
  (cond ((eJ it == cZ)&&f) (jA acc LB W R r) (cond ((eJ it == eC)&&b6 R) (jA acc LB (P||Ig it) R r) (.ok (acc,P,it::r))))
noncomputable def o9:List Int->Int | [a]=>a|_=>-64
def kL(Γ:bV)(ks:List Kd)(t:List Itm):Res Tt :=(jA [] W LB LB t).bind λq=>cond (b6 q.2.1&&bf q.1 1) (.ok (o9 q.1,q.2.2,ks,LA)) (gp Γ ks t)
section
variable{K:bj}{X:KX}{H G:List MO}{is:List Itm}{k:Nat}{it:Itm}{t:List Itm}{j r c d s:Nat}{Γ:bV}{ks:List Kd}{q:Kd}
def sT(is:List Itm)(s:Nat)(Γ:bV)(K:bj)(X:KX)(q:Tt)(G:List MO):Prop :=HW X s Γ q.2.2.1 G (∀a,Ps is a q.2.1->dm G s Γ q.2.2.1->K (.tup [.int q.1,.int a]) G) q.2.2.2
theorem adv(h:H[d]?=Y (.bD fs))(f:fits fs=W):iZ (.ref d) H=Y (.int fs.length):=by
 unfold iZ;have e2:listOf H (.ref d)=LA:=by show H[d]?.bind mC=_;rw[h];rfl
 rw[e2,xS h];show gd (fits fs) _=_;rw[f];rfl
theorem vj(a:H[r]?=Y (tq r s d))(he:e[i]?=Y (Y (.ref r))):Ev (au d9 [695] [] (Loc i)) e H (.ref s):=cR (U he) (gh a rfl rfl) rfl
theorem aeh(S:dm H s Γ ks)(h:H[a]?=Y x)(i:∀C fs,x = .inst C fs->x=x)(b:∀fs,x ≠ .bD fs)(f:∀l,x ≠ .lst l):bJ a [s+2,s+3]=LB :=sV (λq=>by refine LJ S.many λm e=>?_;rw[q,e]at h;exact b _ (LC h).symm) (λq=>by rw[q,S.kinds]at h;exact f _ (LC h).symm)
theorem PS(S:dm H s Γ ks)(h:H[a]?=Y (.inst C fs)):bJ a [s+2,s+3]=LB:=aeh S h (λ_ _ _=>rfl) (λ_ q=>by cases q) (λ_ q=>by cases q)
theorem Ud(p:Ps is k t)(A:H[r]?=Y (tq r s d))(S:dm H s Γ ks)(l:bf ks 1000=W)(h:gI s H (sT is s Γ K X) X (gp Γ ks t)):pY [.ref r,.lst (aL is),.int k] H K X:=by
 unfold pY;refine j5 (iL (dR (vj A rfl) (de S.sp rfl) (ai (U rfl) (ai (U rfl) aw)) ?_));refine ahy p S l (h.xV (fs:=[]) (λF e=>e) λq F e h m y B i w=>?_);refine bg h.gr λz h=>?_;refine oI (a:=[Y (.ref r),Y (.lst (aL is)),Y (.int k),Y (.int q.1),Y (.ref y),Y (.int m)]) rfl ?_;have f:=adv i (cC (by have:=eg z;lia));cases hq:q.2.1 with
 |nil =>
  rw[hq]at h f;exact cu (bq (dy (U rfl) f) aq rfl) (cW (v:=.tup [.int q.1,.int m]) (by walk_at "e") (h F e m B w))
 |cons a b =>
  rw[hq]at h f;cases t with
  |nil=>exact h.elim
  |cons it C =>
   refine ct (bq (t:=W) (dy (U rfl) f) aq (wM (VW (aoY.mpr (anC _))))) (fL (d7 (ai aq (ai (show Ev _ _ _ (a8 it) by walk_at "e") aw)) (xi (K0:=λ(_:Int) _=>True) λx e2=>h x (e.t (Le.u e2)) (w.le e2))))
theorem Mz{q:Str}(h:(eJ it == q)=W)(hq:(iK == q)=LB):∃a is r c,it = .br (a::is) r c:=by
 cases it with
 |tok=>rw[show eJ (.tok _ _ _)=iK from rfl,hq]at h;exact bL h
 |br is r c=>exact Ea (t:=[]) (it:=.br is r c) h hq
theorem NH(a b:Nat):((a:Int) == (b:Int))=decide (a=b):=by
 by_cases h:a=b
 .rw[h,VW rfl];exact abk _
 .rw[aer h];exact VF.mpr (by lia)
theorem adY(s:iM (.br (h0::is) r c)=W)(f:Ev a e H (a8 (.br (h0::is) r c))):Ev (eY pe (bW (au bZ [230,355,522] [] a)) (aj 1)) e H (.bool (Ig (.br (h0::is) r c))):=by
 refine ua (dy (cR f vB rfl) (qu (Ps.of s) H)) aq (wM ?_);cases is with
 |nil=>rfl
 |cons a b=>exact VW (by simp only[VN];lia)
inductive UZ (is:List Itm) (t:List Itm) (k r s:Nat) (Γ:bV) (ks:List Kd) (H:List MO) (K:bj) (X:KX) (t1:List Itm) (e:En) (G:List MO):Prop
 |mk (k1:Nat) (acc:List Int) (P R:Bool) (x7:Option O) (he:e=[Y (.ref r),Y (.lst (aL is)),Y (.int k),Y (.int k1),Y (.ref H.length),Y (.bool P),Y (.bool R),x7]) (p1:Ps is k1 t1) (le:Le H G) (hG:G[H.length]?=Y (.lst (iA acc))) (ha:bf acc 1000=W) (hk:k<=k1)
  (h:gI s H (sT is s Γ K X) X ((jA acc (decide (k1=k)) P R t1).bind λq=>cond (b6 q.2.1&&bf q.1 1) (.ok (o9 q.1,q.2.2,ks,LA)) (gp Γ ks t)))
theorem D7(p:Ps is k t)(hr:H[r]?=Y (tq r s d))(S:dm H s Γ ks)(Q:bf ks 1000=W)(h:gI s H (sT is s Γ K X) X (kL Γ ks t)):vO [.ref r,.lst (aL is),.int k] H K X:=by
 unfold vO;refine j5 (iL ?_);conv=>whnf
 have hn:=jE H;refine Dl (λt=>t.length) (UZ is t k r s Γ ks H K X) ?_ t ?_ ?_
 .intro t1 e G go L z;cases z with
  |mk f acc P R D he A le B ha hk h =>
  subst he;have M:=Qx B ha;have x:∀{D:Option O},gI s H (sT is s Γ K X) X (cond (b6 P&&bf acc 1) (.ok (o9 acc,t1,ks,LA)) (gp Γ ks t))->ap8 [Y (.ref r),Y (.lst (aL is)),Y (.int k),Y (.int f),Y (.ref H.length),Y (.bool P),Y (.bool R),D] G (eA K) (λC fs _ H=>X C fs H):=by
   intro D h;have tt:gI s H (sT is s Γ K X) X (gp Γ ks t)->aU (aH lI [(695,pY)] ak [ax,aD]) [Y (.ref r),Y (.lst (aL is)),Y (.int k),Y (.int f),Y (.ref H.length),Y (.bool P),Y (.bool R),D] G (eA K) (λC fs _ H=>X C fs H):=λh =>
    zY (dR (U rfl) (de (le.g hr) rfl) (ai (U rfl) (ai (U rfl) aw)) (Ud p (le.g hr) (S.le le) Q (h.sub le)))
   cases P with
   |true=>exact cu (by walk_at "e") (tt h)
   |false =>
    induction acc using cL with
    |nil=>exact ct (gO (by walk_at "e") (gO (bq (dy (U rfl) M) aq rfl) (by walk_at "e"))) (ko (v:=.tup [.int (-64),.int f]) (cA (ai (pW (bq (dy (U rfl) M) aq rfl) aq) (ai (U rfl) aw)) rfl) (h G le.u f A (S.le le)))
    |cons a l =>
    induction l using cL with
    |nil=>exact ct (gO (by walk_at "e") (gO (bq (dy (U rfl) M) aq rfl) (by walk_at "e"))) (ko (v:=.tup [.int a,.int f]) (cA (ai (rg (bq (dy (U rfl) M) aq rfl) (aV (U rfl) aq (show aF ay (.ref H.length) (.int 0) G=Y (.int a) by unfold aF;rw[kX B];rfl))) (ai (U rfl) aw)) rfl) (h G le.u f A (S.le le)))
    |cons b l =>
     have T:ef (.int ((a::b::l).length:Nat)) (.int 2) G=Y LB:=o7 (aer (by simp only[VN];lia));exact cu (gO (by walk_at "e") (jg (bq (dy (U rfl) M) aq T))) (tt h)
  cases t1 with
  |nil=>exact(show Ev _ _ G LB by walk_at "e") _ _ (cF rfl (x h))
  |cons it t2 =>
   refine(show Ev _ _ G W by walk_at "e") _ _ (cT rfl ?_);have Z:∀{D:Option O},Ev (ao (aF ay) ax ba) [Y (.ref r),Y (.lst (aL is)),Y (.int k),Y (.int f),Y (.ref H.length),Y (.bool P),Y (.bool R),D] G (a8 it):=aV (U rfl) (U rfl) (nv A G);refine eS (p7 A.sm Z) ?_;have h:gI s H (sT is s Γ K X) X ((cond (eJ it == dN) ((qq it).bind λks=>gk (bf (acc++ks) 1000) (jA (acc++ks) LB P W t2))
    (cond ((eJ it == cZ)&&decide (f=k)) (jA acc LB W R t2) (cond ((eJ it == eC)&&b6 R) (jA acc LB (P||Ig it) R t2) (.ok (acc,P,it::t2))))).bind λq=>cond (b6 q.2.1&&bf q.1 1) (.ok (o9 q.1,q.2.2,ks,LA)) (gp Γ ks t)):=h
   have nk:decide (f+1=k)=LB:=aer (by lia);refine bc (b:=eJ it == dN) (λhq=>?_) λhq=>?_
   .rw[hq]at h;simp only[cond_true,Res.AU,Res.BR]at h;refine ct (by walk_at "e") (fA (fL (ir (U rfl) (ie B) vX ?_)));show aB ui _ _ _ _ _;refine d7 (ai Z aw) (Qr A.sm (h.bd le λks' F e h=>?_));refine bg h.gr λhb h=>?_;refine oI (xW (e.g B) rfl (by rw[←sM];exact uk hb)) (eS aq ?_);refine(show Ev (ao aQ ba (aj 1)) _ _ (O.int (f+1:Nat)) from aV (U rfl) aq rfl) _ _ ?_;refine L t2 _ _ (ajj _) ⟨f+1,acc++ks',P,W,_,rfl,A.nx,(le.t e).st hn _,?_,hb,by lia,by rw[nk];exact h⟩;rw[dW (e.g B),sM]
   .rw[hq]at h;refine zX (by walk_at "e") ?_;have y:=NH f k;have E:∀{P':Bool}{m:EM O},Ev m [Y (.ref r),Y (.lst (aL is)),Y (.int k),Y (.int f),Y (.ref H.length),Y (.bool P),Y (.bool R),Y (.str (eJ it))] G (.bool P')->gI s H (sT is s Γ K X) X ((jA acc LB P' R t2).bind λq=>cond (b6 q.2.1&&bf q.1 1) (.ok (o9 q.1,q.2.2,ks,LA)) (gp Γ ks t))->∀{Kf:KF}{Xf:KE},ah (aZ 5 m) aqE [Y (.ref r),Y (.lst (aL is)),Y (.int k),Y (.int f),Y (.ref H.length),Y (.bool P),Y (.bool R),Y (.str (eJ it))] G (oU go Kf) Xf:=λhm h _ _=>eS hm ((show Ev (ao aQ ba (aj 1)) _ _ (O.int (f+1:Nat)) from aV (U rfl) aq rfl) _ _ (L t2 _ _ (ajj _) ⟨f+1,acc,_,R,_,rfl,A.nx,le,B,ha,by lia,by rw[nk];exact h⟩));refine bc (b:=eJ it == cZ) (λw=>?_) λw=>?_
    .refine bc (b:=decide (f=k)) (λI=>?_) λI=>?_
     .rw[w,I]at h;rw[I]at y;refine ct (EI (gO (by walk_at "e") (gO (bq (U rfl) (U rfl) (sZ y)) (by walk_at "e")))) (E ?_ h);cases P with
      |true=>exact Bh (U rfl)
      |false=>exact yn (U rfl) (Bh (by walk_at "e"))
     .rw[w,I]at h;rw[I]at y;have i:(eJ it == eC)=LB:=by rw[eq_of_beq w];rfl
      rw[i]at h;exact zX (mY (gO (by walk_at "e") (jg (bq (U rfl) (U rfl) (sZ y)))) (mY (jg (by walk_at "e")) (by walk_at "e"))) (show ah xD _ _ _ _ _ from x h)
    .rw[w]at h;refine bc (b:=eJ it == eC) (λi=>?_) λi=>?_
     .rw[i]at h;have psm:=A.sm;refine CU (Mz i rfl) λh0 is2 r2 c2 N=>?_;subst N;cases R with
      |true=>exact zX (mY (jg (by walk_at "e")) (mY (gO (by walk_at "e") (jg (rh (iw (U rfl) rfl) rfl))) (by walk_at "e"))) (show ah xD _ _ _ _ _ from x h)
      |false =>
       refine ct (mY (jg (by walk_at "e")) (EI (gO (by walk_at "e") (gO (rh (iw (U rfl) rfl) rfl) (by walk_at "e"))))) (E ?_ h);cases P with
       |true=>exact Bh (U rfl)
       |false=>exact yn (U rfl) (yn (by walk_at "e") (adY psm Z))
     .rw[i]at h;exact zX (mY (jg (by walk_at "e")) (mY (jg (by walk_at "e")) (by walk_at "e"))) (show ah xD _ _ _ _ _ from x h)
 .have:=p.len;have:=p.s;show t.length < 3000;lia
 .exact⟨k,[],LB,LB,LA,rfl,p,Le.n H _,eG H _,rfl,LL _,by rw[VW rfl];exact h⟩
end
noncomputable def refs(l:List Nat):List O:=l.map .ref
structure Rx (H:List MO) (r s d:Nat) (Γ:bV) (ks:List Kd) (ls:List Nat):Prop where
 rd:H[r]?=Y (tq r s d)
 sp:dm H s Γ ks
 lb:H[r+2]?=Y (.lst (refs ls).reverse)
 le:bf ls 1000=W
 rr:s+10 < r
section
variable{K:bj}{X:KX}{H G:List MO}{is:List Itm}{k:Nat}{it:Itm}{t:List Itm}{j r c d s:Nat}{Γ:bV}{ks ks':List Kd}{q:Kd}{ls:List Nat}
theorem Rx.up(h:Rx H r s d Γ ks ls)(u:Up [s+2,s+3] H G)(S:dm G s Γ ks'):Rx G r s d Γ ks' ls :=
 have b:=h.rr
 ⟨u _ _ h.rd (PS h.sp h.rd),S,u _ _ h.lb (sV (by omega) (by omega)),h.le,b⟩
theorem Rx.wy(h:Rx H r s d Γ ks ls)(u:Le H G):Rx G r s d Γ ks ls:=h.up u.u (h.sp.le u)
def Cs(Γ:bV)(i:iQ)(b:Itm)(t:List Itm):Res (Int×List Itm):=(nr b t).bind λ_=>match t with
 | .tok w r c::a=>(fY Γ i w.1 r c).bind λv=>.ok (v,a)
 |_=>.stuck
def kIx(is:List Itm)(K:bj)(p:Int×List Itm)(G:List MO):Prop:=∀a,Ps is a p.2->K (.tup [.int p.1,.int a]) G
theorem acu(h:nr tk t = .ok v):∃w r c e,t = .tok w r c::e/\v = .tok w r c:=by
 cases t with
 |nil=>cases tk<;>cases h
 |cons a b=>cases a with
  |br is r c=>cases h
  |tok w r c =>
   have h:cond (nW w.1.sort) (Res.ok (Itm.tok w r c)) (odd (.tok w r c))= .ok v:=h;cases q:nW w.1.sort with
   |true=>rw[q]at h;cases h;exact⟨w,r,c,b,rfl,rfl⟩
   |false=>rw[q]at h;cases h
theorem acr{l:Type}{f:Itm->Res l}{K0:l->List MO->Prop}{i:Itm->List MO->Prop}(h:dY ps es H K0 X ((nr tk t).bind f))(le:Up es H G)(k:∀w r c b F,t = .tok w r c::b->Le G F->dY ps es H K0 X (f (.tok w r c))->i (.tok w r c) F):Out G i X (nr tk t):=by
 cases q:nr tk t with
 |stuck=>rw[q]at h;exact h
 |bad w r c=>rw[q]at h;exactλF e=>h F (le.t (Le.u e))
 |left w r=>rw[q]at h;exactλF e=>h F (le.t (Le.u e))
 |ok v =>
  rw[q]at h;refine zP (acu q) λw r c b e1 a=>?_;subst a
  exactλF e=>k w r c b F e1 e h
theorem YW{K:List O->List MO->Prop}(he:e[i]?=Y (Y v))(h:m e H (λy G=>K [v,y] G) X):Args [Loc i,m] e H K X:=by
 conv=>whnf
 exact oI (a:=v) (by rw[he];rfl) h
theorem N2{t:Tg}{b:SM}{K:KF}{X:KE}{v:O}{l:List O}{e e':En}(he:z8 t v e=Y e')(h:b e' H (oU (forL t b K X l) K) X):forL t b K X (v::l) e H:=oI he h
theorem PQ{i:iQ}(p:Ps is k t)(R:Rx H r s d Γ ks ls)(h:Out H (kIx is K) X (Cs Γ i tk t)):lA [.ref r,.str i.q,a8 tk,.lst (aL is),.int k] H K X:=by
 unfold lA;refine abT (C4 (Ee (vj R.rd rfl) (de R.sp.sp rfl) ?_));refine YW rfl ?_;refine d7 (ai (U rfl) (ai (U rfl) (ai (U rfl) aw))) (Ce p (acr h Up.r λw r1 f l F b e h=>?_));subst b;refine Hx (R.sp.le e) (h.bd e λv a e2 h=>?_);exact kK (xs:=[.int (k+1:Nat)]) (ai (aV (U rfl) aq rfl) aw) (bI rfl (h a (e.t e2) (k+1) p.nx))
theorem afW{n:Nat}(h:n < 60000):vk (.int n)=Y (upTo n 0):=by
 unfold vk aI;have e1:decide (0<=(n:Int))=W:=VW (akl n);have e2:decide ((n:Int)< 60000)=W:=VW (ahH.mpr h);rw[ajy,e1,e2];rfl
theorem I4(l:List Nat):(refs l).length=l.length:=QC ..
theorem HZ(R:Rx H r s d Γ ks ls):iZ (.ref (r+2)) H=Y (.int ls.length):=by
 have:=eg R.le;rw[nD R.lb (cC (by rw[abj,I4];omega)),abj,I4]
end
theorem abt{f:Fm}:(f.v == ow)=LK f.n 3:=by apply um f;kernel_rfl!
abbrev Ti:=List Int×List Itm×List Kd×Au
def Hw(Γ:bV)(ks:List Kd)(w:Wd)(a:Itm)(t:List Itm):Res Ti :=(cond (du t) (Cs Γ .table a t) (.ok (0,t))).bind λp=>(gp Γ ks p.2).bind λq=>.ok ([(oN w.code:Int),q.1,p.1],q.2.1,q.2.2.1,q.2.2.2)
theorem Iv(h:oY o=LB):oA o = .int (oN o):=by
 induction o with
 |none=>exact qK h
 |some n=>rfl
theorem aen(h:oY o=W):oA o = .none:=by
 induction o with
 |none=>rfl
 |some n=>exact bL h
section
variable{K:bj}{X:KX}{H G:List MO}{is:List Itm}{k:Nat}{it:Itm}{t:List Itm}{j r c d s:Nat}{Γ:bV}{ks ks':List Kd}{q:Kd}{ls:List Nat}
def HQ(is:List Itm)(s:Nat)(Γ:bV)(K:bj)(X:KX)(p:Ti)(G:List MO):Prop:=HW X s Γ p.2.2.1 G (∀a,Ps is a p.2.1->dm G s Γ p.2.2.1->K (.tup [.tup (iA p.1),.int a]) G) p.2.2.2
theorem ZE(p:Ps is k t)(R:Rx H r s d Γ ks ls)(he:e[0]?=Y (Y (.ref r)))(hi:e[i]?=Y (Y (.lst (aL is))))(b:e[j']?=Y (Y (.int k)))(a:bf ks 1000=W)(h:gI s H (sT is s Γ K X) X (gp Γ ks t)):aH lI [(695,pY)] ak [Loc i,Loc j'] e H K X :=dR (U he) (de R.rd rfl) (ai (U hi) (ai (U b) aw)) (Ud p R.rd R.sp a h)
theorem acN{w:OW}{m:Itm}(p:Ps is k t)(R:Rx H r s d Γ ks ls)(hb:LK w.1.cH.n 3=W)(z:bf ks 1000=W)(h:gI s H (HQ is s Γ K X) X (Hw Γ ks w.1 m t)):Bo [.ref r,.int (oN w.1.code),.str w.1.cH.v,a8 m,.lst (aL is),.int k] H K X:=by
 unfold Bo;have I:=abt (f:=w.1.cH);rw[hb]at I;refine EV (ct (by walk_at "e") (fA (eS aq (fA ?_))));have x:∀{A:Nat}{D:List Itm}{n:Int}{G:List MO},Ps is A D->Le H G->gI s H (HQ is s Γ K X) X ((gp Γ ks D).bind λq=>.ok ([(oN w.1.code:Int),q.1,n],q.2.1,q.2.2.1,q.2.2.2))->∀{C:SM},
   ah (ah aqJ (aU (ar [ar [ax,ee,cq],bN]))) C [Y (.ref r),Y (.int (oN w.1.code)),Y (.str w.1.cH.v),Y (a8 m),Y (.lst (aL is)),Y (.int A),Y (.int n),LA,LA,LA] G (eA K) (λC fs _ H=>X C fs H):=by
  intro A D n G p le h C;refine fA (iL (ZE p (R.wy le) rfl rfl rfl z (h.xV (fs:=[]) (λF e=>le.t e) λq F e h=>?_)));obtain⟨E,N,M,L⟩:=q;cases L with
  |some l=>exact h F (le.u.t e)
  |none =>
  intro k2 B S2;refine oI (a:=[Y (.ref r),Y (.int (oN w.1.code)),Y (.str w.1.cH.v),Y (a8 m),Y (.lst (aL is)),Y (.int k2),Y (.int n),Y (.int E),LA,LA]) rfl ?_;exact ko (v:=.tup [.tup (iA [(oN w.1.code:Int),E,n]),.int k2]) (by walk_at "e") (h F (le.u.t e) k2 B S2)
 have y:=HM (H:=H) p (U rfl) (U rfl) (e:=[Y (.ref r),Y (.int (oN w.1.code)),Y (.str w.1.cH.v),Y (a8 m),Y (.lst (aL is)),Y (.int k),Y (.int 0),LA,LA,LA]) (a:=Loc 4) (b:=Loc 5);unfold Hw at h;refine bc (b:=du t) (λhi=>?_) λhi=>?_
 .rw[hi]at h y;refine ct (iw y rfl) (iL (dR (U rfl) (de R.rd rfl) (ai aq (ai (U rfl) (ai (U rfl) (ai (U rfl) aw)))) ?_));refine PQ (i:=.table) p R (h.bd Up.r λv F e h k2 B=>?_);exact oI (a:=[Y (.ref r),Y (.int (oN w.1.code)),Y (.str w.1.cH.v),Y (a8 m),Y (.lst (aL is)),Y (.int k2),Y (.int v.1),LA,LA,LA]) rfl (x B e h)
 .rw[hi]at h y;exact cu (iw y rfl) (x p Up.r h)
end
theorem abw{f:Fm}:(f.v == c5)=LK f.n 5:=by apply um f;kernel_rfl!
theorem abx{f:Fm}:(f.v == rI)=LK f.n 10:=by apply um f;kernel_rfl!
def fM:Nat->List Itm->List Itm
 |0,_=>[]
 |_+1,[]=>[]
 |n+1,it::r=>cond (du (it::r)) (it::fM n r) []
noncomputable def vm(Γ:bV)(i:iQ):Itm->Res Int | .tok w r c=>fY Γ i w.1 r c | .br ..=>.stuck
def Ab(Γ:bV)(acc:List Int):List Itm->Res (List Int)
 | []=>.ok acc
 |a::r=>(vm Γ .table a).bind λv=>Ab Γ (acc++[v]) r
def RN(Γ:bV)(w:Wd)(f:Itm)(t:List Itm):List Itm->Res (List Int×List Itm)
 | []=>(nr f t).bind λ_=>.stuck
 | [a]=>(vm Γ .elem a).bind λe=>.ok ([(oN w.code:Int),e,0],t.drop 1)
 |a::b::_=>(vm Γ .table a).bind λx=>(vm Γ .elem b).bind λe=>.ok ([(oN w.code:Int),e,x],t.drop 2)
def RM(Γ:bV)(w:Wd)(t:List Itm):List Itm->Res (List Int×List Itm)
 | []=>.ok ([(oN w.code:Int),0,0],t)
 | [a]=>odd a
 |a::b::_=>(Ab Γ [] [a,b]).bind λvs=>gk (bf ((oN w.code:Int)::vs) 1000) (.ok ((oN w.code:Int)::vs,t.drop 2))
def IE(Γ:bV)(w:Wd)(t:List Itm):List Itm->Res (List Int×List Itm)
 | []=>.ok ([(oN w.code:Int),0],t)
 |a::_=>(vm Γ .table a).bind λx=>.ok ([(oN w.code:Int),x],t.drop 1)
def IF(Γ:bV)(w:Wd)(a:Itm)(t:List Itm):Res (List Int×List Itm) :=cond (LK w.cH.n 5) (IE Γ w t (fM 2 t)) (cond (LK w.cH.n 10) (RM Γ w t (fM 2 t)) (RN Γ w a t (fM 2 t)))
section
variable{K:bj}{X:KX}{H G:List MO}{is:List Itm}{k:Nat}{it:Itm}{t:List Itm}{j r c d s:Nat}{Γ:bV}{ks ks':List Kd}{q:Kd}{ls:List Nat}
theorem zg{i:iQ}(R:Rx H r s d Γ ks ls)(b:(eM 770 tab).bind (λF=>gd (uS (look d8 [(iF,O.ref (s+1)),(oF,O.ref (s+2)),(eB,O.ref (s+3))])) (Y F))=Y jL)(f:Ev o e H (.ref s))(hm:Ev m e H (a8 a))(h:Out H (λv=>K (.int v)) X (vm Γ i a)):aH d8 tab o [aW (.str i.q),m] e H K X:=by
 refine dR f (de R.sp.sp b) (ai aq (ai hm aw)) ?_;cases a with
 |br=>exact h.elim
 |tok w r c=>exact Hx R.sp h
theorem q0{a e:Type}{x:Res a}{f:a->Res e}{K0:e->List MO->Prop}{b:a->List MO->Prop}(h:dY ps es H K0 X (x.bind f))(le:Up es H G)(k:∀v F,Le G F->dY ps es H K0 X (f v)->b v F):Out G b X x:=h.bd le k
noncomputable def Im:List O->Bool | []=>W|_::_=>LB
theorem eq_nil(h:H[k]?=Y (.lst xs)):aX (.ref k) (.lst []) H=Y (Im xs):=by
 have e1:(iG (.ref k) (.lst []) λa b=>Y (a == b))=LA:=rfl;have e2:((aS (.ref k)).bind λx=>(aS (.lst [])).bind λy=>Y (x == y))=LA:=rfl;unfold aX;rw[e1,e2];show alt (oO (.ref k) (.lst []) H) (kj (.ref k) (.lst []) H)=_;unfold oO;rw[kX h];cases xs with
 |nil =>
  show kj _ _ _=_;unfold kj;have:toPy H cM (.ref k)=Y (ak8 []):=by
   show(((H[k]?).bind zw).bind λxs=>(eQ (toPy H 49) xs).map ak8)=_;rw[h];rfl
  rw[this];rfl
 |cons=>rfl
theorem ne_nil(h:H[k]?=Y (.lst xs)):eN (.ref k) (.lst []) H=Y (!Im xs):=by
 unfold eN;rw[eq_nil h];rfl
theorem TZ:∀(n:Nat) (t:List Itm),∃a,t=fM n t++a/\(fM n t).length<=n
 |0,t=>⟨t,rfl,LL _⟩
 |n+1,[]=>⟨[],rfl,aeN _⟩
 |n+1,it::r=>by
  refine aM (TZ n r) λa e l=>?_;show ∃a,it::r=cond (du (it::r)) (it::fM n r) []++a/\(cond (du (it::r)) (it::fM n r) []).length<=n+1;cases du (it::r) with
  |true=>exact⟨a,congrArg (it :: ·) e,VT l⟩
  |false=>exact⟨it::r,rfl,aeN _⟩
theorem Ps.dr:∀{n:Nat}{k:Nat}{t:List Itm},Ps is k t->n<=t.length->Ps is (k+n) (t.drop n)
 |0,_,_,p,_=>p
 |n+1,k,it::r,p,h=>by rw[show k+(n+1)=k+1+n by lia];exact Ps.dr p.nx (ada h)
theorem Ey(a b:List Itm):aL (a++b)=aL a++aL b:=by rw[t5,t5,t5,ajG]
theorem abH(p:Ps is k t)(h:∀G k0,Le H G->G[k0]?=Y (.lst (aL (fM 2 t)))->H[k0]?=LA->Kf .next [Y z,Y x,Y y,Y B,Y (.lst (aL is)),Y (.int k),Y (.ref k0),LA,LA,LA] G): ah (aZ 6 (gc [])) (iq aqe aqj) [Y z,Y x,Y y,Y B,Y (.lst (aL is)),Y (.int k),LA,LA,LA,LA] H Kf (λC fs _ H=>X C fs H):=by
 refine fK ?_;show iq _ _ [Y z,Y x,Y y,Y B,Y (.lst (aL is)),Y (.int k),Y (.ref H.length),LA,LA,LA] (H++[.lst []]) _ _;have M:=jE H;have l:=eG H (.lst []);have D:=Le.n H (.lst []);generalize H.length=k0 at M l ⊢;generalize H++[MO.lst []]=G0 at l D ⊢;refine Dl (λf:List Itm=>2 - f.length) (λf e G=>∃t',t=f++t'/\e=[Y z,Y x,Y y,Y B,Y (.lst (aL is)),Y (.int k),Y (.ref k0),LA,LA,LA]/\Le H G/\G[k0]?=Y (.lst (aL f))/\f.length<=2/\f++fM (2 - f.length) t'=fM 2 t) ?_ [] (by show 2 - 0 < 3000;decide) ⟨t,rfl,rfl,D,l,aeN _,rfl⟩;intro f e G go Q zi0;refine CT zi0 λt' E I le l S i=>?_;subst E;subst I;have a:iZ (.ref k0) G=Y (.int f.length):=by rw[nD l (cC (by rw[kP];exact LI S (by decide))),kP]
 have p':Ps is (k+f.length) t':=by have:=Ps.dr p (n:=f.length) (by rw[LN];exact ajk _ _);rw[List.drop_left]at this;exact this
 by_cases N:f.length=2
 .have w:ef (.int f.length) (.int 2) G=Y LB:=o7 (aer (by rw[N];decide));have e:fM (2 - f.length) t'=[]:=by rw[N];rfl
  rw[e,VJ]at i;exact(show Ev _ _ G LB from jg (bq (dy (U rfl) a) aq w)) _ _ (cF rfl (h G k0 le (by rw[←i];exact l) M))
 .have L:f.length < 2:=alN S N;have w:ef (.int f.length) (.int 2) G=Y W:=o7 (VW (ahH.mpr L));have T:=jh (F:=l4) (e:=[Y z,Y x,Y y,Y B,Y (.lst (aL is)),Y (.int k),Y (.ref k0),LA,LA,LA]) (as:=[bw,ao aQ bN (bW cq)]) (H:=G) (xs:=[.lst (aL is),.int (k+f.length:Nat)]) (v:=.bool (du t')) (ai (U rfl) (ai (aV (U rfl) (dy (U rfl) a) rfl) aw)) (λK X kk=>Ou p' kk);obtain⟨m,hm⟩: ∃m,2 - f.length=m+1:=⟨1 - f.length,Nat.succ_sub (ajK L)⟩;rw[hm]at i;have A:du t'=LB->f=fM 2 (f++t')->_:=λhb i=>(show Ev aqe [Y z,Y x,Y y,Y B,Y (.lst (aL is)),Y (.int k),Y (.ref k0),LA,LA,LA] G LB from gO (bq (dy (U rfl) a) aq w) (jg (iw (hb▸T) rfl))) (λg H=>cP g (aqj [Y z,Y x,Y y,Y B,Y (.lst (aL is)),Y (.int k),Y (.ref k0),LA,LA,LA] H (oU go Kf) λC fs _ H=>X C fs H) (Kf .next [Y z,Y x,Y y,Y B,Y (.lst (aL is)),Y (.int k),Y (.ref k0),LA,LA,LA] H)) (xE (λC fs _ H=>X C fs H) [Y z,Y x,Y y,Y B,Y (.lst (aL is)),Y (.int k),Y (.ref k0),LA,LA,LA]) (cF rfl (h G k0 le (by rw[←i];exact l) M));cases t' with
  |nil=>exact A rfl (by rw[←i];exact(VJ f).symm)
  |cons it t2 =>
   have ek:fM (m+1) (it::t2)=cond (du (it::t2)) (it::fM m t2) []:=rfl;rw[ek]at i;refine bc (b:=du (it::t2)) (λhb=>?_) λhb=>?_
   .rw[hb]at T i;refine(show Ev _ _ G W from gO (bq (dy (U rfl) a) aq w) (gO (iw T rfl) (by walk_at "e"))) _ _ (cT rfl ?_);refine ir (U rfl) (ie l) l9 (kK (xs:=[a8 it]) (ai (aV (U rfl) (aV (v:=.int (k+f.length:Nat)) (U rfl) (dy (U rfl) a) rfl) (nv p' G)) aw) (oI (oa l (cC (by rw[kP];exact LI S (by decide)))) ?_));have Z:(f++[it]).length=f.length+1:=LN;refine Q (f++[it]) _ _ (by rw[Z,alG];exact Nat.sub_lt (an2 L) Nat.one_pos) ⟨t2,by rw[aa0];rfl,rfl,le.st M _,?_,by rw[Z];exact L,?_⟩
    .rw[dW l,Ey];rfl
    .rw[Z,alG,hm,aa0];exact i
   .rw[hb]at i;exact A hb (by rw[←i];exact(VJ f).symm)
theorem agg(k:ah A B e H (mJ C Kf Xf) Xf):ah A (ah B C) e H Kf Xf:=by
 show A e H (mJ (ah B C) Kf Xf) Xf;rw[←Ta];exact k
theorem acs{l:Type}{f:Itm->Res l}{K0:l->List MO->Prop}{i:Itm->List MO->Prop}(m:du t=LB)(h:Out H K0 X ((nr tk t).bind f))(le:Le H G):Out G i X (nr tk t):=by
 cases t with
 |nil=>exactλF e=>h F (le.t e)
 |cons a b =>
  have h:Out H K0 X ((cond (du (a::b)) (.ok a) (odd a)).bind f):=h;show Out G i X (cond (du (a::b)) (.ok a) (odd a));rw[m]at h ⊢
  exactλF e=>h F (le.t e)
theorem Z7(x:H[k1]?=LA)(y:Rx H r s d Γ ks ls)(w:H[k0]?=Y (.lst (aL f))):∀(rest:List Itm) (i:Nat) (acc:List Int) (G:List MO) (n:Nat),f.drop i=rest->rest.length < n->acc.length+rest.length<=10->Le H G->G[k1]?=Y (.lst (iA acc))->Out H (λvs=>K (.lst (iA vs))) X (Ab Γ acc rest)-> yh aqg [Y (.ref r)] k0 k1 (λG=>lZ k1 G K) X n i G:=by
 intro rest;induction rest with
 |nil =>
  intro i acc G n b l z le m h;cases n with
  |zero=>cases l
  |succ n =>
   refine oI (a:=aL f) (by rw[le.g w];rfl) ?_;have e:(aL f)[i]?=LA:=by rw[Ez,←akP,b];rfl
   rw[e];exact oI (a:=iA acc) (by rw[m];rfl) (h _ (le.st x .dead))
 |cons a rest B =>
  intro i acc G n b l z le m h;cases n with
  |zero=>cases l
  |succ n =>
   refine oI (a:=aL f) (by rw[le.g w];rfl) ?_;have e:(aL f)[i]?=Y (a8 a):=by rw[Ez,←akP,b];rfl
   refine Ex e ?_;have h:Out H (λvs=>K (.lst (iA vs))) X ((vm Γ .table a).bind λv=>Ab Γ (acc++[v]) rest):=h;have R:=y.wy le;refine zg (i:=.table) R rfl (vj R.rd rfl) (U rfl) (q0 h le λv F e2 h=>?_);have p:=e2.g m;have A:pN k1 (.int v) F=Y (F.set k1 (.lst (iA (acc++[v])))):=by
    unfold pN;rw[p];show gd (fits (iA acc)) _=_;rw[show fits (iA acc)=W from cC (by rw[B9];lia),sM];rfl
   refine oI A ?_;exact B (i+1) (acc++[v]) _ n (by rw[ako,b];rfl) (akp l) (by rw[LN];simp only[VN,aaT]at *;lia) ((le.t e2).st x _) (dW p _) h
theorem M4(b:Rx H r s d Γ ks ls)(a:H[k0]?=Y (.lst (aL f)))(m:f.length<=2)(he:e[0]?=Y (Y (.ref r)))(l:e[6]?=Y (Y (.ref k0)))(h:Out H (λvs=>K (.lst (iA vs))) X (Ab Γ [] f)): tB cq [0] aqg e H K X:=by
 have i:mZ [0] e=Y [Y (.ref r)]:=by
  show((e[0]?).bind id).bind _=_;rw[he];rfl
 refine cast M3.symm (oI i (U l _ _ (oI (n8 a) ?_)));exact Z7 (jE H) b a f 0 [] _ 3000 rfl (by lia) (by simp only[aaT];lia) (Le.n H _) (eG H _) h
theorem Cr(h:H[k]?=Y (.lst (aL (a::f))))(e:(a::f).length<=2):aF ay (.ref k) (.int 0) H=Y (a8 a):=by
 unfold aF;rw[kX h]
 match f,e with
 | [],_=>rfl
 | [b],_=>rfl
 |b::c::f,e=>simp only[VN]at e;lia
theorem ix1(h:H[k]?=Y (.lst (aL [a]))):aF ay (.ref k) (.int (-1)) H=Y (a8 a):=by
 unfold aF;rw[kX h];rfl
theorem ix2(h:H[k]?=Y (.lst (aL [a,b]))):aF ay (.ref k) (.int (-1)) H=Y (a8 b):=by
 unfold aF;rw[kX h];rfl
theorem adx(h:e[i]?=Y (Y v)){K:bj}:Loc i e H K X=K v H:=by unfold Loc;rw[h];rfl
theorem Sk{i j:Nat}{M A:EM O}{e:En}{c z:O}{b:KF}{XE:KE}(h1:e[i]?=Y (Y c))(f:e[j]?=Y (Y z))(h:M e H (λv G=>A e G (λu G=>b (.ret (.tup [.tup [c,v,z],u])) e G) (xE XE e)) (xE XE e)):aU (ar [ar [Loc i,M,Loc j],A]) e H b XE:=by
 conv=>whnf
 refine oI (a:=c) (by rw[h1];rfl) ?_;refine cast (congrFun (congrArg (M e H) (funext λv=>funext λG=>?_)) _) h;show A e G _ _=Loc j e G _ (xE XE e);rw[adx f];rfl
theorem aeo{w:OW}{L:Itm}(p:Ps is k t)(R:Rx H r s d Γ ks ls)(h:Out H (kI is K) X (IF Γ w.1 L t)):Bp [.ref r,.int (oN w.1.code),.str w.1.cH.v,a8 L,.lst (aL is),.int k] H K X:=by
 unfold Bp;refine EV (agg (abH p λG k0 le m hn=>Df rfl rfl ?_));have R:=R.wy le;have h9:=abw (f:=w.1.cH);have D:=abx (f:=w.1.cH);refine aM (TZ 2 t) λt' Z z=>?_;have p0:fM 2 t=[]->du t=LB:=λe=>by
  cases t with
  |nil=>rfl
  |cons a b =>
   have e:cond (du (a::b)) (a::fM 1 b) []=[]:=e;cases q:du (a::b) with|false=>rfl|true=>rw[q]at e;cases e
 have p1:∀a f',fM 2 t=a::f'->nr L t = .ok a:=λa f' e=>by
  cases t with
  |nil=>cases e
  |cons x y =>
   have e:cond (du (x::y)) (x::fM 1 y) []=a::f':=e;show cond (du (x::y)) (.ok x) (odd x)= .ok a;cases q:du (x::y) with|false=>rw[q]at e;cases e|true=>rw[q]at e;cases e;rfl
 unfold IF at h;generalize fM 2 t=f at h m Z z p0 p1;have sp:∀{e:En},e[0]?=Y (Y (.ref r))->Ev (au d9 [695] [] ak) e G (.ref s):=λhe=>vj R.rd he;have pn:∀n,n<=f.length->Ps is (k+n) (t.drop n):=λn hn=>Ps.dr p (by rw[Z,LN];lia);have A:iZ (.ref k0) G=Y (.int f.length):=by rw[nD m (cC (by rw[kP];lia)),kP]
 refine bc (b:=LK w.1.cH.n 5) (λhb=>?_) λhb=>?_
 .rw[hb]at h h9;refine ct (by walk_at "e") (fA ?_);have hq:=eq_nil m;cases f with
  |nil=>exact ct (bq (U rfl) (show Ev (az []) _ G (.lst []) fromλK X k=>k) hq) (ko (v:=.tup [.tup (iA [(oN w.1.code:Int),0]),.int k]) (cA (ai (cA (ai (U rfl) (ai aq aw)) rfl) (ai (U rfl) aw)) rfl) (h G le k p))
  |cons a f' =>
   refine cu (bq (U rfl) (show Ev (az []) _ G (.lst []) fromλK X k=>k) hq) (I7 (afH rfl (zg (i:=.table) R rfl (sp rfl) (aV (U rfl) aq (Cr m z)) (q0 h le.u λv F e h=>?_))));exact(show Ev (ao aQ bN (aj 1)) _ F (O.int (k+1:Nat)) from aV (U rfl) aq rfl) _ _ (h F (le.t e) (k+1) (pn 1 (VT (aeN _))))
 .rw[hb]at h h9;refine cu (by walk_at "e") ?_;refine bc (b:=LK w.1.cH.n 10) (λN=>?_) λN=>?_
  .rw[N]at h D;refine ct (by walk_at "e") (fA ?_);have B:∀(F:List MO) (ys:List O) (l:List Int) (T:O),F[k0]?=Y (.lst (aL f))->(∀{e:En},e[6]?=Y (Y (.ref k0))->e[7]?=Y (Y T)->Ev aq8 e F (.lst ys))->[O.int (oN w.1.code)]++ys=iA l->bf l 1000=W->K (.tup [.tup (iA l),.int (k+f.length:Nat)]) F->∀{C:SM},ah aqk C [Y (.ref r),Y (.int (oN w.1.code)),Y (.str w.1.cH.v),Y (a8 L),Y (.lst (aL is)),Y (.int k),Y (.ref k0),Y T,LA,LA] F (eA K) (λC fs _ H=>X C fs H):=λF ys l T m hy hl hs hK {C}=>by
    have E:fits (iA l)=W:=uk hs;have ea:aQ (.lst [.int (oN w.1.code)]) (.lst ys) F=Y (.lst (iA l)):=by rw[←hl];exact add_l (y:=.lst ys) rfl (by rw[hl];exact E)
    have A:iZ (.ref k0) F=Y (.int f.length):=by rw[nD m (cC (by rw[kP];lia)),kP]
    exact I7 (afU (l:=l) (EJ (aV (show Ev (az [ax]) _ F (.lst [.int (oN w.1.code)]) fromλK X k=>k) (hy rfl rfl) ea) rfl E) (aV (v:=.int (k+f.length:Nat)) (U rfl) (dy (U rfl) A) rfl) hK)
   have I:=λ(F:List MO) (m:F[k0]?=Y (.lst (aL f)))=>ne_nil m;induction f using cL with
   |nil =>
    refine cu (bq (dy (U rfl) A) aq rfl) (fK (M4 R m z rfl rfl λF e=>?_));exact B F [.int 0,.int 0] [(oN w.1.code:Int),0,0] _ (Le.g e m) (λM h7=>pW (bq (U M) (show Ev (az []) _ F (.lst []) fromλK X k=>k) (I F (Le.g e m))) λK X k=>k) rfl rfl (h F (le.t e) k p)
   |cons a f =>
    induction f using cL with
    |nil =>
     exact ct (bq (dy (U rfl) A) aq rfl) (fL (d7 (ai aq (ai (aV (U rfl) aq (Cr m z)) aw)) (xi (h.sub le))))
    |cons b f =>
     induction f using cL with
     |nil =>
      refine cu (bq (dy (U rfl) A) aq rfl) (fK (M4 R m z rfl rfl (q0 h le.u λvs F e h=>?_)));refine bg h.gr λS h=>?_;exact B F (iA vs) ((oN w.1.code:Int)::vs) _ (e.g m) (λM h7=>rg (bq (U M) (show Ev (az []) _ F (.lst []) fromλK X k=>k) (I F (e.g m))) (U h7)) rfl S (h F (le.t e) (k+2) (pn 2 (LL _)))
     |cons x f=>simp only[VN]at z;lia
  .rw[N]at h D;refine cu (by walk_at "e") ?_;have idx:∀(a:Itm) (f':List Itm),f=a::f'->∀(Q:Itm->List MO->Prop),(∀F,Le G F->Q a F)->Out G Q X (nr L t):=λa f' e Q hQ=>by rw[p1 _ _ e];exact hQ
   induction f using cL with
   |nil=>exact fK (d7 (ai (U rfl) (ai (U rfl) (ai (U rfl) aw))) (Ce p (acs (p0 rfl) h le)))
   |cons a f =>
    induction f using cL with
    |nil =>
     refine fK (d7 (ai (U rfl) (ai (U rfl) (ai (U rfl) aw))) (Ce p (idx _ _ rfl _ λF e=>?_)));have R:=R.wy e;have le:=le.t e;have m:=e.g m;have A:iZ (.ref k0) F=Y (.int 1):=by rw[nD m rfl];rfl
     refine eS (pW (bq (dy (U rfl) A) aq rfl) aq) (Sk rfl rfl (zg (i:=.elem) R rfl (vj R.rd rfl) (aV (U rfl) (rj aq rfl) (ix1 m)) (q0 h le λv F e h=>?_)));exact(show Ev (ao aQ bN (bW cq)) _ F (O.int (k+1:Nat)) from aV (U rfl) (dy (U rfl) (by rw[nD (e.g m) rfl])) rfl) _ _ (h F (le.t e) (k+1) (pn 1 (LL _)))
    |cons b f =>
     induction f using cL with
     |nil =>
      refine fK (d7 (ai (U rfl) (ai (U rfl) (ai (U rfl) aw))) (Ce p (idx _ _ rfl _ λF e=>?_)));have R:=R.wy e;have le:=le.t e;have m:=e.g m;have A:iZ (.ref k0) F=Y (.int 2):=by rw[nD m rfl];rfl
      refine fK ((show Ev (aC aX (bW cq) (aj 2)) _ F W from bq (dy (U rfl) A) aq rfl) _ _ (cT rfl ?_));refine zg (i:=.table) R rfl (vj R.rd rfl) (U rfl) (q0 h le λv F e h=>?_);have R:=R.wy e;have le:=le.t e;have m:=e.g m;refine Sk rfl rfl (zg (i:=.elem) R rfl (vj R.rd rfl) (aV (U rfl) (rj aq rfl) (ix2 m)) (q0 h le λv F e h=>?_));exact(show Ev (ao aQ bN (bW cq)) _ F (O.int (k+2:Nat)) from aV (U rfl) (dy (U rfl) (by rw[nD (e.g m) rfl])) rfl) _ _ (h F (le.t e) (k+2) (pn 2 (LL _)))
     |cons x f=>simp only[VN]at z;lia
end
noncomputable def Ts(n:Nat):iQ:=cond (LK n 2) .func (cond (LK n 4) .global (cond (LK n 9) .elem .data))
section
variable{K:bj}{X:KX}{H G:List MO}{is:List Itm}{k:Nat}{it:Itm}{t:List Itm}{j r c d s:Nat}{Γ:bV}{ks ks':List Kd}{q:Kd}{ls:List Nat}
theorem acH{f:Fm}:dh ay (.str f.v) (.tup [.str hW,.str gR,.str yN]) H=Y (LK f.n 0):=by apply um f;kernel_rfl!
theorem acI{f:Fm}:dh ay (.str f.v) (.gl 416) H=Y (bJ f.n [2,4,6,7,9]):=by apply um f;kernel_rfl!
theorem acG{f:Fm}:dh ay (.str f.v) (.tup [.str gQ,.str gu,.str fO,.str ow]) H=Y (LK f.n 3):=by apply um f;kernel_rfl!
theorem in_tab{f:Fm}:dh ay (.str f.v) (.tup [.str c5,.str wb,.str rI]) H=Y (bJ f.n [5,8,10]):=by apply um f;kernel_rfl!
theorem agN(f:Fm)(h:bJ f.n [2,4,6,7,9]=W):aF ay (.gl 416) (.str f.v) H=Y (.str (Ts f.n).q):=by cases f<;>first|rfl|exact bL h
def iT(Γ:bV)(ks:List Kd)(w:OW)(r1 a:Nat)(t:List Itm):Res Ti :=cond (w.1.txt == jR) (S9 t) (cond w.1.gn (odd (.tok w r1 a)) (cond (oY w.1.code) (cond w.1.oQ (.left w.1.txt r1) .stuck) (cond (LK w.1.cH.n 0) (.ok ([(oN w.1.code:Int)],t,ks,LA)) (cond (bJ w.1.cH.n [2,4,6,7,9]) ((Cs Γ (Ts w.1.cH.n) (.tok w r1 a) t).bind λp=>.ok ([(oN w.1.code:Int),p.1],p.2,ks,LA)) (cond (LK w.1.cH.n 3) (Hw Γ ks w.1 (.tok w r1 a) t) (cond (bJ w.1.cH.n [5,8,10]) ((IF Γ w.1 (.tok w r1 a) t).bind λp=>.ok (p.1,p.2,ks,LA)) .stuck))))))
theorem PT(hw:nW w.1.sort=LB)(p:Ps is k t)(R:Rx H r s d Γ ks ls)(C:bf ks 1000=W)(h:gI s H (HQ is s Γ K X) X (iT Γ ks w r1 c1 t)):yr [.ref r,a8 (.tok w r1 c1),.lst (aL is),.int k] H K X:=by
 unfold yr;refine p5 ?_;unfold iT at h;have B:∀{e:En},e[1]?=Y (Y (a8 (.tok w r1 c1)))->Ev (au cS [202] [] ax) e H (.str w.1.txt):=λhe=>cR (U he) AN rfl;refine h.bc (λhb h=>?_) λhb h=>?_
 .exact ct (by walk_at "e") (xm (dR (U rfl) (de R.rd rfl) (by walk_at "e") (agk p h)))
 refine cu (by walk_at "e") ?_;have i:=jh (F:=yA) (H:=H) (xs:=[.str w.1.txt]) (v:=.bool w.1.gn) (as:=[au cS [202] [] ax]) (e:=Y (O.ref r)::Y (a8 (.tok w r1 c1))::Y (.lst (aL is))::Y (.int k)::eV 3) (ai (B rfl) aw) λK X k=>q9 (w.2.gn hw) k;refine h.bc (λD h=>?_) λD h=>?_
 .rw[D]at i;exact ct (iw i rfl) (fL (d7 (ai aq (ai (U rfl) aw)) (xi (K0:=λ(_:Int) _=>True) (dY.Ji h Up.r))))
 rw[D]at i;refine cu (iw i rfl) (eS (v:=oA w.1.code) (jh (ai (B rfl) aw) λK X k=>q9 (w.2.code hw) k) ?_);refine h.bc (λx h=>?_) λx h=>?_
 .refine h.bc (λL h=>?_) λ_ h=>h.elim;have l:=jh (F:=yz) (H:=H) (xs:=[.str w.1.txt]) (v:=.bool w.1.oQ) (as:=[au cS [202] [] ax]) (e:=(Y (O.ref r)::Y (a8 (.tok w r1 c1))::Y (.lst (aL is))::Y (.int k)::eV 3).set 4 (Y (oA w.1.code))) (ai (B rfl) aw) λK X k=>q9 (w.2.oQ hw x) k;rw[L]at l;rw[aen x]at l ⊢;exact ct (by walk_at "e") (fA (ct (iw l rfl) (Sj (ai (B rfl) (ai (by walk_at "e") aw)) (h _ (Le.n H .dead)))))
 rw[Iv x];refine cu (by walk_at "e") (eS (v:=.str w.1.cH.v) (jh (ai (U rfl) aw) λK X k=>q9 (w.2.cH hw) k) ?_);have tp:∀{a b c:O}{e:En},Ev (ar [aW a,aW b,aW c]) e H (.tup [a,b,c]):=λK X k=>k;have y:=acH (f:=w.1.cH) (H:=H);have z:=acI (f:=w.1.cH) (H:=H);have A:=acG (f:=w.1.cH) (H:=H);have I:=in_tab (f:=w.1.cH) (H:=H);refine h.bc (λhb h=>?_) λhb h=>?_
 .rw[hb]at y;exact ct (bq (U rfl) tp y) (ko (v:=.tup [.tup (iA [(oN w.1.code:Int)]),.int k]) (cA (ai (cA (ai (U rfl) aw) rfl) (ai (U rfl) aw)) rfl) (h H Up.r k p R.sp))
 rw[hb]at y;refine cu (bq (U rfl) tp y) ?_;refine h.bc (λhb h=>?_) λhb h=>?_
 .rw[hb]at z;refine ct (bq (U rfl) aq z) (fA (iL (dR (U rfl) (de R.rd rfl) (ai (aV aq (U rfl) (agN _ hb)) (ai (U rfl) (ai (U rfl) (ai (U rfl) aw)))) ?_)));refine PQ p R (q0 h Up.r λv F e h k2 Q=>?_);refine oI (a:=[Y (.ref r),Y (a8 (.tok w r1 c1)),Y (.lst (aL is)),Y (.int k2),Y (.int (oN w.1.code)),Y (.str w.1.cH.v),Y (.int v.1)]) rfl ?_;exact ko (v:=.tup [.tup (iA [(oN w.1.code:Int),v.1]),.int k2]) (cA (ai (cA (ai (U rfl) (ai (U rfl) aw)) rfl) (ai (U rfl) aw)) rfl) (h F (Le.u e) k2 Q (R.sp.le e))
 rw[hb]at z;refine cu (bq (U rfl) aq z) ?_;have m:Ev (ar [af gQ,af gu,af fO,af ow]) [Y (.ref r),Y (a8 (.tok w r1 c1)),Y (.lst (aL is)),Y (.int k),Y (.int (oN w.1.code)),Y (.str w.1.cH.v),LA] H _:=λK X k=>k;have E:jI [bw,bN,ax,aD,ba] [Y (.ref r),Y (a8 (.tok w r1 c1)),Y (.lst (aL is)),Y (.int k),Y (.int (oN w.1.code)),Y (.str w.1.cH.v),LA] H [.int (oN w.1.code),.str w.1.cH.v,a8 (.tok w r1 c1),.lst (aL is),.int k]:=by walk_at "e"
 refine h.bc (λhb h=>?_) λhb h=>?_
 .rw[hb]at A;exact ct (bq (U rfl) m A) (xm (dR (U rfl) (de R.rd rfl) E (acN p R hb C h)))
 rw[hb]at A;refine cu (bq (U rfl) m A) ?_;refine h.bc (λhb h=>?_) λ_ h=>h.elim;rw[hb]at I;exact ct (bq (U rfl) tp I) (xm (dR (U rfl) (de R.rd rfl) E (aeo p R (q0 h Up.r λp F e h M N=>h F (Le.u e) M N (R.sp.le e)))))
end
inductive c9 where
 |run (is t:List Itm) (f:Bool) (b:Option Nat)
 |emit (v:List Int)
 |wY (v:List Int)
 |cls
noncomputable def oB:Option Nat->O|none=>.none|some n=>.int n
def jF(is:List Itm)(k:Nat)(f:Bool)(b:Option Nat):MO:=.inst 522 [(bZ,.lst (aL is)),(bX,.int k),(qg,.bool f),(oz,oB b)]
def fB(l:List (List Int)):List O:=l.map λv=>.tup (iA v)
def tA(x:c9×Nat):O:=match x.1 with
 | .run ..=>.tup [.str jS,.ref x.2]
 | .emit v=>.tup [.str zS,.tup (iA v)]
 | .wY v=>.tup [.str BV,.tup [.tup (iA v),.ref x.2]]
 | .cls=>.tup [.str pz,.none]
def gL(H:List MO)(x:c9×Nat):Prop:=match x.1 with
 | .run is t f b=>∃k,Ps is k t/\H[x.2]?=Y (jF is k f b)
 |_=>True
noncomputable def gU(x:c9×Nat):List Nat:=match x.1 with | .run ..=>[x.2]|_=>[]
noncomputable def own:List (c9×Nat)->List Nat | []=>[]|x::r=>gU x++own r
structure Co where
 body:List (List Int)
 fh:Nat
 ks:List Kd
structure Sr (H:List MO) (r s d:Nat) (Γ:bV) (c:Co) (ls:List Nat) (ti:List (c9×Nat)):Prop where
 rx:Rx H r s d Γ c.ks ls
 ln:ls.length=c.fh
 bd:H[r+1]?=Y (.lst (fB c.body))
 tk:H[r+3]?=Y (.lst (ti.map tA).reverse)
 ta:∀x,x∈ti->gL H x
 nd:(own ti).Nodup
section
variable{K:bj}{X:KX}{H G:List MO}{is:List Itm}{k:Nat}{it:Itm}{t:List Itm}{j r d s:Nat}{Γ:bV}{ks ks':List Kd}{q:Kd}{ls ls':List Nat}{c:Co}{ti:List (c9×Nat)}
noncomputable def HT:MO->Nat | .lst _=>0 | .bD _=>1 | .inst C _=>C+2 | .exc _ _=>2 | .dead=>3
theorem ka{a b:Nat}{m m':MO}(h1:H[a]?=Y m)(f:H[b]?=Y m')(h:HT m≠HT m'):a≠b:=λe=>by rw[e,f]at h1;exact h (congrArg HT (LC h1).symm)
theorem agM{x C:Nat}{fs:List (Str×O)}(S:dm H s Γ ks)(h:H[x]?=Y (.inst C fs))(f:C≠770):∀i,i < 11->s+i≠x:=λi hi=>by
 have b:∀{a:Nat}{fs:List (Str×O)},H[a]?=Y (.bD fs)->a≠x:=λe=>ka e h (by show 1≠C+2;lia)
 match i,hi with
 |0,_=>exact ka S.sp h (by show 770+2≠C+2;lia)
 |1,_=>exact b S.ids
 |2,_=>refine LJ S.many λm e=>?_;exact b e
 |3,_=>exact ka S.kinds h (by show 0≠C+2;lia)
 |4,_=>exact b (S.tb .type)
 |5,_=>exact b (S.tb .func)
 |6,_=>exact b (S.tb .table)
 |7,_=>exact b (S.tb .memory)
 |8,_=>exact b (S.tb .global)
 |9,_=>exact b (S.tb .elem)
 |10,_=>exact b (S.tb .data)
 |n+11,h=>lia
theorem gL.up(h:gL H y)(u:Up ps H G)(n:∀i C fs,i∈gU y->H[i]?=Y (.inst C fs)->bJ i ps=LB):gL G y:=by
 obtain⟨a,i⟩:=y;cases a with
 |run is t f b=>exact aM h λk p e=>⟨k,p,u _ _ e (n _ _ _ (ajm ..) e)⟩
 |_=>trivial
theorem Ui(m:MO):Up [x] H (H.set x m):=λk y e a=>sn e (λq=>by subst q;have:bJ x [x]=W:=(by show cond (LK x x) W LB=W;rw[ajT];rfl);rw[this]at a;exact qK a)
theorem dm.st(S:dm H s Γ ks)(n:∀i,i < 11->s+i≠x):dm (H.set x m) s Γ ks:=S.up (Ui m) λi hi=>mB (n i hi)
theorem gL.st(h:gL H y)(n:∀i,i∈gU y->i≠x):gL (H.set x m) y:=h.up (Ui m) λi _ _ hi _=>mB (n i hi)
theorem gL.inst(h:gL H y)(hi:i∈gU y):∃C fs,H[i]?=Y (.inst C fs):=by
 obtain⟨a,j⟩:=y;cases a with
 |run is t f b=>refine aM h λk p e=>?_;cases hi with|head=>exact⟨_,_,e⟩|tail _ h=>exact fj h
 |_=>exact fj hi
theorem Sr.up(S:Sr H r s d Γ c ls ti)(u:Up [s+2,s+3] H G)(b:dm G s Γ ks'):Sr G r s d Γ ⟨c.body,c.fh,ks'⟩ ls ti :=
 have:=S.rx.rr
 ⟨S.rx.up u b,S.ln,u _ _ S.bd (sV (by lia) (by lia)),u _ _ S.tk (sV (by lia) (by lia)),λx a=>(S.ta x a).up u λi C fs _ e=>PS S.rx.sp e,S.nd⟩
theorem Sr.le(S:Sr H r s d Γ c ls ti)(u:Le H G):Sr G r s d Γ c ls ti:=S.up u.u (S.rx.sp.le u)
theorem Rx.lst{x:Nat}{m:MO}{l:List O}(R:Rx H r s d Γ ks ls)(b:H[x]?=Y (.lst l))(h1:s+10 < x)(a:x≠r+2):Rx (H.set x m) r s d Γ ks ls :=⟨sn R.rd (ka b R.rd (show(0:Nat)≠697 by decide)),R.sp.st λi hi=>by lia,sn R.lb a,R.le,R.rr⟩
theorem xt{x:Nat}{m:MO}{l:List O}{y:c9×Nat}(h:gL H y)(a:H[x]?=Y (.lst l)):gL (H.set x m) y:=h.st λi hi=>by refine ve (h.inst hi) λC fs e=>?_;exact ka e a (ajv _)
theorem Sr.body(S:Sr H r s d Γ c ls ti)(b:List (List Int)):Sr (H.set (r+1) (.lst (fB b))) r s d Γ ⟨b,c.fh,c.ks⟩ ls ti :=
 have:=S.rx.rr
 ⟨S.rx.lst S.bd (by lia) (by lia),S.ln,dW S.bd _,sn S.tk (by lia),λx a=>xt (S.ta x a) S.bd,S.nd⟩
theorem Sr.tasks{ti':List (c9×Nat)}(S:Sr H r s d Γ c ls ti)(a:∀x,x∈ti'->gL H x)(nd:(own ti').Nodup):Sr (H.set (r+3) (.lst (ti'.map tA).reverse)) r s d Γ c ls ti' :=
 have:=S.rx.rr
 ⟨S.rx.lst S.tk (by lia) (by lia),S.ln,sn S.bd (by lia),dW S.tk _,λx b=>xt (a x b) S.tk,nd⟩
theorem Sr.Cu{n:Nat}(S:Sr H r s d Γ c ls ti)(ln:ls'.length=n)(le:bf ls' 1000=W):Sr (H.set (r+2) (.lst (refs ls').reverse)) r s d Γ ⟨c.body,n,c.ks⟩ ls' ti :=
 have:=S.rx.rr;have R:=S.rx
 ⟨⟨sn R.rd (ka R.lb R.rd (show(0:Nat)≠697 by decide)),R.sp.st λi hi=>by lia,dW R.lb _,le,R.rr⟩,ln,sn S.bd (by lia),sn S.tk (by lia),λx a=>xt (S.ta x a) R.lb,S.nd⟩
theorem Rx.ins{x C:Nat}{fs:List (Str×O)}{m:MO}(R:Rx H r s d Γ ks ls)(a:H[x]?=Y (.inst C fs))(h1:C≠770)(b:C≠695):Rx (H.set x m) r s d Γ ks ls :=⟨sn R.rd (ka a R.rd (by show C+2≠695+2;lia)),R.sp.st (agM R.sp a h1),sn R.lb (ka a R.lb (by show C+2≠0;lia)),R.le,R.rr⟩
theorem IG:∀{ti:List (c9×Nat)},x∈ti->i∈gU x->i∈own ti
 |y::r,a,hi=>by
  show i∈gU y++own r;cases a with
  |head=>exact anf _ hi
  |tail _ a=>exact am5 _ (IG a hi)
end
inductive Ro (α:Type) where
 |stuck|ok (v:α)|bad (why:Str) (r c:Nat) (ks:List Kd)|left (why:Str) (r:Nat) (ks:List Kd)
noncomputable def pG{a β:Type}(ks:List Kd)(x:Res a)(f:a->Ro β):Ro β:=match x with
 | .stuck=>.stuck | .ok v=>f v | .bad w r c=>.bad w r c ks | .left w r=>.left w r ks
noncomputable def Ro.bind{a β:Type}(x:Ro a)(f:a->Ro β):Ro β:=match x with
 | .stuck=>.stuck | .ok v=>f v | .bad w r c ks=>.bad w r c ks | .left w r ks=>.left w r ks
noncomputable def mf{α:Type}(b:Bool)(x:Ro α):Ro α:=cond b x .stuck
def afR{α:Type}(ks:List Kd)(a:Str)(it:Itm):Ro α:=pG ks (zW a it:Res Unit) λ_=>.stuck
def dB{b:Type}(a:List MO)(s:Nat)(Γ:bV)(P:b->List MO->Prop)(X:KX)(x:Ro b):Prop:=match x with
 | .stuck=>False
 | .ok v=>∀G,P v G
 | .bad w r c ks=>∀G,Up [s+2,s+3] a G->dm G s Γ ks->X 164 (n9 w r c) G
 | .left w r ks=>∀G,Up [s+2,s+3] a G->dm G s Γ ks->X 183 (zr w r) G
def k6(c:Co):Bool:=bf c.body 900&&(bf c.ks 900&&VZ c.fh 900)
theorem CL{c:Co}(h:k6 c=W){P:Prop}(k:bf c.body 1000=W->bf c.ks 1000=W->VZ c.fh 900=W->P):P :=aY h λa h=>aY h λb d=>k (cC (LI (eg a) (by decide))) (cC (LI (eg b) (by decide))) d
structure Sx (H0 H:List MO) (r s d:Nat) (Γ:bV) (c:Co) (ls:List Nat) (ti:List (c9×Nat)):Prop where
 S:Sr H r s d Γ c ls ti
 u:Up [s+2,s+3] H0 H
 h0:H0.length=r
 nw:∀i,i∈own ti->r<=i
noncomputable def sU{a:Type}(ks:List Kd)(x:Ro a):Au->Ro a|none=>x|some (r,c)=>.bad cI r c ks
section
variable{K:bj}{X:KX}{H0 H G:List MO}{is:List Itm}{k:Nat}{it:Itm}{t:List Itm}{j r d s:Nat}{Γ:bV}{ks ks':List Kd}{q:Kd}{ls ls':List Nat}{c:Co}{ti:List (c9×Nat)}
theorem dB.xU{a i:Type}{x:Res a}{f:a->Ro i}{P:i->List MO->Prop}{b:a->List MO->Prop}(h:dB H0 s Γ P X (pG ks x f))(u:Up [s+2,s+3] H0 H)(S:dm H s Γ ks)(k:∀v F,Up [s+2,s+3] H F->dB H0 s Γ P X (f v)->b v F):gI s H b X x:=by
 cases x with
 |stuck=>exact h
 |ok v=>exactλF e=>k v F e h
 |bad w r c=>exactλF e=>h F (u.t (Le.u e)) (S.le e)
 |left w r=>exactλF e=>h F (u.t (Le.u e)) (S.le e)
theorem dB.Y7{a i:Type}{x:Res a}{f:a->Ro i}{P:i->List MO->Prop}{b:a->List MO->Prop}(h:dB H0 s Γ P X (pG ks x f))(u:Up [s+2,s+3] H0 H)(S:dm H s Γ ks)(k:∀v F,Le H F->dB H0 s Γ P X (f v)->b v F):Out H b X x:=by
 cases x with
 |stuck=>exact h
 |ok v=>exactλF e=>k v F e h
 |bad w r c=>exactλF e=>h F (u.t (Le.u e)) (S.le e)
 |left w r=>exactλF e=>h F (u.t (Le.u e)) (S.le e)
theorem dB.bc{a:Type}{b:Bool}{x y:Ro a}{P:a->List MO->Prop}{G:Prop}(h:dB H0 s Γ P X (cond b x y))(k:b=W->dB H0 s Γ P X x->G)(k2:b=LB->dB H0 s Γ P X y->G):G:=by
 induction b using cB with
 |true=>exact k rfl h
 |false=>exact k2 rfl h
theorem dB.gr{a:Type}{x:Ro a}{P:a->List MO->Prop}(h:dB H0 s Γ P X (mf b x)):b=W/\dB H0 s Γ P X x:=by
 cases b with|true=>exact⟨rfl,h⟩|false=>exact h.elim
theorem dB.rf{a:Type}{P:a->List MO->Prop}(h:dB H0 s Γ P X (afR ks why it))(u:Up [s+2,s+3] H0 H)(S:dm H s Γ ks):Out H (λ(_:Unit) _=>True) X (zW why it):=h.Y7 u S λ_ _ _ _=>trivial
theorem Sx.qI(Z:Sx H0 H r s d Γ c ls ti):dm H s Γ c.ks:=Z.S.rx.sp
theorem Sx.no(Z:Sx H0 H r s d Γ c ls ti)(h:r<=i):H0[i]?=LA:=VO (by rw[Z.h0];exact h)
theorem Sx.lt(Z:Sx H0 H r s d Γ c ls ti):r < H.length:=(Sa.mp Z.S.rx.rd).1
theorem Sx.le(Z:Sx H0 H r s d Γ c ls ti)(e:Le H G):Sx H0 G r s d Γ c ls ti:=⟨Z.S.le e,Z.u.t e.u,Z.h0,Z.nw⟩
theorem Sx.up(Z:Sx H0 H r s d Γ c ls ti)(e:Up [s+2,s+3] H G)(a:dm G s Γ ks'):Sx H0 G r s d Γ ⟨c.body,c.fh,ks'⟩ ls ti:=⟨Z.S.up e a,Z.u.t e,Z.h0,Z.nw⟩
theorem Sx.body(Z:Sx H0 H r s d Γ c ls ti)(b:List (List Int)):Sx H0 (H.set (r+1) (.lst (fB b))) r s d Γ ⟨b,c.fh,c.ks⟩ ls ti:=⟨Z.S.body b,Z.u.st (Z.no (by lia)) _,Z.h0,Z.nw⟩
theorem Sx.tasks{ti':List (c9×Nat)}(Z:Sx H0 H r s d Γ c ls ti)(a:∀x,x∈ti'->gL H x)(nd:(own ti').Nodup)(b:∀i,i∈own ti'->r<=i):Sx H0 (H.set (r+3) (.lst (ti'.map tA).reverse)) r s d Γ c ls ti':=⟨Z.S.tasks a nd,Z.u.st (Z.no (by lia)) _,Z.h0,b⟩
theorem Sx.Cu{n:Nat}(Z:Sx H0 H r s d Γ c ls ti)(ln:ls'.length=n)(le:bf ls' 1000=W):Sx H0 (H.set (r+2) (.lst (refs ls').reverse)) r s d Γ ⟨c.body,n,c.ks⟩ ls' ti:=⟨Z.S.Cu ln le,Z.u.st (Z.no (by lia)) _,Z.h0,Z.nw⟩
theorem jl(a:(bJ C cs&&bf fs 900)=W):mF n cs es (.ref H.length) v (H++[.inst C fs])=Y (H++[.inst C (fT n v fs)]):=by
 rw[qD (eG H _) a,qG]
theorem Zy(h:∀fs,K (.ref H.length) (H++[.inst 501 fs])):x5 [.str z,.str w.1.txt,a8 (.tok w r1 c1)] H K X:=by
 unfold x5;rw[fU];show By _ _ _ _;unfold By;exact p5 (ib (U rfl) (U rfl) (jl rfl) (ib (U rfl) (U rfl) (jl rfl) (ib (U rfl) (U rfl) (jl rfl) (y8 aq (U rfl) (jl rfl) (h _)))))
theorem HV(p:Ps is k t)(a:nu t=LB)(h:∀fs,K (.tup [.ref H.length,.int k]) (H++[.inst 501 fs])):vP [sf,a8 (.tok w r1 c1),.lst (aL is),.int k] H K X:=by
 unfold vP;refine p5 (cu ?_ (C4 (d7 (ai aq (ai (by walk_at "e") (ai (U rfl) aw))) (Zy λfs=>kK (xs:=[.int k]) (ai (U rfl) aw) (bI rfl (h fs))))));cases t with
 |nil=>walk_at "e"
 |cons it f=>cases it with
  |br=>walk_at "e"
  |tok u e b =>
   have a:eD u.1.sort=LB:=a
   walk_at "e"
theorem SG(h:K (.tup [.str jS,.ref H.length]) (H++[jF is k f LA])):lC [.lst (aL is),.int k,.bool f] H K X:=by
 unfold lC;refine j5 ?_;conv=>whnf
 unfold Ed;rw[fU];show Bv _ _ _ _;unfold Bv;exact p5 (ib (U rfl) (U rfl) (jl rfl) (ib (U rfl) (U rfl) (jl rfl) (ib (U rfl) (U rfl) (jl rfl) (y8 aq (U rfl) (jl rfl) h))))
theorem Za(l:List (List Int)):(fB l).length=l.length:=QC ..
theorem Y9(l:List (List Int))(v:List Int):fB l++[.tup (iA v)]=fB (l++[v]):=by unfold fB;rw[ajG];rfl
theorem Sv(a:H[r]?=Y (tq r s d))(he:e[i]?=Y (Y (.ref r))):Ev (au fQ [695] [] (Loc i)) e H (.ref (r+1)):=cR (U he) (gh a rfl rfl) rfl
theorem xg(a:H[r]?=Y (tq r s d))(he:e[i]?=Y (Y (.ref r))):Ev (au fO [695] [] (Loc i)) e H (.ref (r+2)):=cR (U he) (gh a rfl rfl) rfl
theorem C5(a:H[r]?=Y (tq r s d))(he:e[i]?=Y (Y (.ref r))):Ev (au iX [695] [] (Loc i)) e H (.ref (r+3)):=cR (U he) (gh a rfl rfl) rfl
theorem ya(Z:Sx H0 H r s d Γ c ls ti)(f:bf c.body 1000=W)(he:e[0]?=Y (Y (.ref r)))(hm:Ev m e H (.tup (iA v)))(h:∀G:List MO,(∀(i C:Nat) (fs:List (Str×O)),H[i]?=Y (MO.inst C fs)->G[i]?=Y (MO.inst C fs))->Sx H0 G r s d Γ ⟨c.body++[v],c.fh,c.ks⟩ ls ti->K .none G):aH dG [] (au fQ [695] [] ak) [m] e H K X:=by
 refine ir (Sv Z.S.rx.rd he) (ie Z.S.bd) l9 (kK (xs:=[.tup (iA v)]) (ai hm aw) (oI (oa Z.S.bd (cC (by rw[Za];have:=eg f;lia))) ?_));have:=Z.body (c.body++[v]);rw[←Y9]at this;exact h _ (λi C fs e=>sn e (ka Z.S.bd e (aaU (ajv _)))) this
end
section
variable{K:bj}{X:KX}{H0 H G:List MO}{is:List Itm}{k:Nat}{it:Itm}{t:List Itm}{i j r d s:Nat}{Γ:bV}{ks ks':List Kd}{q:Kd}{ls:List Nat}{c:Co}{ti:List (c9×Nat)}
theorem C8(i:Nat)(ls:List Nat):(refs (i::ls)).reverse=(refs ls).reverse++[.ref i]:=adI ..
theorem NT(h:bf ls 1000=W):fits (refs ls).reverse=W:=cC (by rw[abj,I4];have:=eg h;lia)
theorem ID(Z:Sx H0 H r s d Γ c ls ti)(a:bf c.body 1000=W)(fl:VZ c.fh 900=W)(h:∀G,Sx H0 G r s d Γ ⟨c.body++[v],c.fh+1,c.ks⟩ (i::ls) ti->K .none G):vQ [.ref r,.tup (iA v),.ref i] H K X:=by
 unfold vQ;refine j5 (fL (ya Z a rfl (U rfl) λG ki Z=>?_));have R:=Z.S.rx;have ln:=Z.S.ln;refine(show bp _ _ _ _ _ from ir (xg R.rd rfl) (ie R.lb) l9 (kK (xs:=[.ref i]) (ai (U rfl) aw) (oI (oa R.lb (NT R.le)) ?_)));rw[←C8];exact h _ (Z.Cu (congrArg (· + 1) ln) (cC (LI (VT (ln▸LQ fl)) (by decide))))
theorem MU(Z:Sx H0 H r s d Γ c ls ti)(m:c.fh=n+1)(f:bf c.body 1000=W)(h:∀G a,Sx H0 G r s d Γ ⟨c.body++[[11]],n,c.ks⟩ a ti->K .none G):yo [.ref r] H K X:=by
 unfold yo;have R:=Z.S.rx;have ln:=Z.S.ln.trans m;cases ls with
 |nil=>cases ln
 |cons i a =>
 have b:=R.lb;rw[C8]at b;have l:fits ((refs a).reverse++[O.ref i])=W:=by rw[←C8];exact NT R.le
 refine fun1 (fL (ir (xg R.rd rfl) (ie b) NV (oI (Mu b l) ?_)));have e:=Z.Cu (akQ ln) (by have:bf (i::a) 1000=W:=R.le;exact cC (ak7 (eg this)));exact(show bp _ _ _ _ _ from ya e f rfl (v:=[11]) (cA (ai aq aw) rfl) λG _ Z=>h G _ Z)
def RQ(c:Co)(b:Nat)(w:OW)(t:List Itm):Ro (List Itm×Co):=match c.fh with
 |0=>.stuck
 |n+1=>cond (LK (n+1) b) .stuck (cond (du t) .stuck (mf (w.1.txt == gA) (.ok (t,⟨c.body++[[11]],n,c.ks⟩))))
def HR(H0:List MO)(is:List Itm)(r s d:Nat)(Γ:bV)(ti:List (c9×Nat))(K:bj)(q:List Itm×Co)(G:List MO):Prop:=∀b a,Ps is b q.1->Sx H0 G r s d Γ q.2 a ti->K (.int b) G
theorem NI(a b:Nat):((a:Int) == (b:Int))=LK a b:=by
 rw[NH];cases q:LK a b with
 |true=>exact VW (VH q)
 |false=>exact aer (aku q)
theorem acz(R:Rx H r s d Γ ks (i::ls')):aF ay (.ref (r+2)) (.int (-1)) H=Y (.ref i):=by
 have a:=R.lb;rw[C8]at a;have b:=eg R.le;have e:idx ((refs ls').reverse++[O.ref i]) (.int (-1))=Y (.ref i):=by
  show gd W ((aeO (-1) ((refs ls').reverse++[O.ref i]).length).bind λj=>((refs ls').reverse++[O.ref i])[j]?)=_;have f:((refs ls').reverse++[O.ref i]).length=(refs ls').reverse.length+1:=by rw[LN];rfl
  have s:aeO (-1) ((refs ls').reverse++[O.ref i]).length=Y (refs ls').reverse.length:=by
   rw[f];unfold aeO;have e:(if (-1:Int)< 0 then(-1:Int)+((refs ls').reverse.length+1:Nat) else(-1:Int))=((refs ls').reverse.length:Nat):=by rw[VD (by decide)];lia
   rw[e];dsimp only;rw[VD (by rw[LM,ajJ,ajJ];lia)];rfl
  rw[s];show((refs ls').reverse++[O.ref i])[(refs ls').reverse.length]?=_;rw[alX (LL _),anD];rfl
 unfold aF;rw[kX a];show alt LA (alt (idx ((refs ls').reverse++[O.ref i]) (.int (-1))) _)=_;rw[e];rfl
theorem aeU(hi:H[i]?=Y (jF is kk f (Y b)))(p:Ps is k t)(Z:Sx H0 H r s d Γ c ls ti)(A:bf c.body 1000=W)(h:dB H0 s Γ (HR H0 is r s d Γ ti K) X (RQ c b w t)):Bq [.ref r,.ref i,a8 (.tok w r1 c1),.int k] H K X:=by
 unfold Bq;refine p5 ?_;have R:=Z.S.rx;have ln:=Z.S.ln;obtain⟨body,n,ks⟩:=c;cases n with
 |zero=>exact h.elim
 |succ n =>
 cases ls with
 |nil=>cases ln
 |cons x l =>
 refine h.bc (λ_ h=>h.elim) λhb h=>h.bc (λ_ h=>h.elim) λB h=>bg h.gr λhe h=>?_;have m:=HM (H:=H) p (e:=[Y (.ref r),Y (.ref i),Y (a8 (.tok w r1 c1)),Y (.int k),Y (.ref x)]) (a:=au bZ [230,355,522] [] ax) (b:=Loc 3) (cR (U rfl) (gh hi rfl rfl) rfl) (U rfl);rw[B]at m;refine cu (bq (dy (xg R.rd rfl) (HZ R)) (y:=.int b) (cR (U rfl) (gh hi rfl rfl) rfl) (sZ (by rw[NI,ln];exact hb))) (eS (v:=.ref x) (aV (xg R.rd rfl) (rj aq rfl) (acz R)) (cu (jg (iw m rfl)) ?_));exact ct (by walk_at "e") (fL (dR (U rfl) (de R.rd rfl) aw (MU Z rfl A λG l z=>cW (v:=.int k) (U rfl) (h G k l p z))))
end
def vi(Γ:bV)(c:Co)(w:OW)(t:List Itm):Ro (List Itm×Co):=cond (nu t) .stuck (pG c.ks (kL Γ c.ks t) λu=>sU u.2.2.1 (cond (oY w.1.code) .stuck (.ok (u.2.1,⟨c.body++[[(oN w.1.code:Int),u.1]],c.fh+1,u.2.2.1⟩))) u.2.2.2)
def nN(Γ:bV)(c:Co)(b:Nat)(w:OW)(r1 a:Nat)(t:List Itm):Ro (List Itm×Co) :=cond w.1.iY (vi Γ c w t) (cond w.1.nA (RQ c b w t) (pG c.ks (iT Γ c.ks w r1 a t) λu=>sU u.2.2.1 (.ok (u.2.1,⟨c.body++[u.1],c.fh,u.2.2.1⟩)) u.2.2.2))
section
variable{K:bj}{X:KX}{H0 H G:List MO}{is:List Itm}{k:Nat}{it:Itm}{t:List Itm}{i j r d s:Nat}{Γ:bV}{ks ks':List Kd}{q:Kd}{ls:List Nat}{c:Co}{ti:List (c9×Nat)}
theorem zo{a:Type}{P:a->List MO->Prop}{x:Ro a}(h:dB H0 s Γ P X (sU ks x l))(u:Up [s+2,s+3] H0 G)(k:dB H0 s Γ P X x->p):HW X s Γ ks G p l:=by
 cases l with
 |none=>exact k h
 |some l=>exactλS=>h G u S
theorem aeG:∀{ti:List (c9×Nat)},(∀x,x∈ti->gL H x)->i∈own ti->∃C fs,H[i]?=Y (.inst C fs):=by
 intro ti;induction ti with
 |nil=>intro _ h;exact fj h
 |cons x f e =>
  intro a h;rcases akm.mp (show i∈gU x++own f from h) with h|h
  .exact(a x (ajm ..)).inst h
  .exact e (λy b=>a y (alx _ b)) h
theorem RO(a:∀x,x∈ti->gL H x):¬H.length∈own ti:=λh=>by
 refine ve (aeG a h) λC fs e=>?_;rw[jE]at e;exact bR e
theorem aeV(hw:nW w.1.sort=LB)(hi:H[i]?=Y (jF is k f (Y b)))(p:Ps is k (.tok w r1 c1::t))(Z:Sx H0 H r s d Γ c ls ti)(L:k6 c=W)(h:dB H0 s Γ (HR H0 is r s d Γ ti K) X (nN Γ c b w r1 c1 t)):yt [.ref r,.ref i,a8 (.tok w r1 c1)] H K X:=by
 unfold yt;refine CL L λB E fl=>?_;have R:=Z.S.rx;refine j5 (i6 (xs:=[.lst (aL is),.int (k+1:Nat)]) (cA (ai (cR (U rfl) (gh hi rfl rfl) rfl) (ai (aV (cR (U rfl) (gh hi rfl rfl) rfl) aq rfl) aw)) rfl) rfl ?_);unfold nN at h;have m:∀{e:En}{G:List MO},e[2]?=Y (Y (a8 (.tok w r1 c1)))->Ev (au cS [202] [] aD) e G (.str w.1.txt):=λhe=>cR (U he) AN rfl;have y:=w.2.iY hw (H:=H);refine h.bc (λhb h=>?_) λhb h=>?_
 .rw[hb]at y;refine h.bc (λ_ h=>h.elim) λI h=>?_;refine ct (bq (m rfl) aq y) (fA (iL (dR (U rfl) (de R.rd rfl) (ai (U rfl) (ai (U rfl) (ai (U rfl) aw))) (HV p.nx I λfs=>?_))));refine oI (a:=[Y (.ref r),Y (.ref i),Y (a8 (.tok w r1 c1)),Y (.lst (aL is)),Y (.int (k+1:Nat)),Y (.ref H.length),LA,LA]) rfl ?_;have l:=Z.le (Le.n H (.inst 501 fs));refine fA (iL (dR (U rfl) (de l.S.rx.rd rfl) (ai (U rfl) (ai (U rfl) aw)) (D7 p.nx l.S.rx.rd l.qI E (h.xU l.u l.qI λq F e h=>zo h (l.u.t e) λh k2 C S2=>?_))));refine h.bc (λ_ h=>h.elim) λfc h=>?_;refine oI (a:=[Y (.ref r),Y (.ref i),Y (a8 (.tok w r1 c1)),Y (.lst (aL is)),Y (.int k2),Y (.ref H.length),Y (.int q.1),LA]) rfl ?_;have D:=l.up e S2;refine fA (fL (dR (U rfl) (de D.S.rx.rd rfl) (ai (x:=.tup (iA [(oN w.1.code:Int),q.1])) (cA (ai (jh (ai (m rfl) aw) λK X k=>q9 (w.2.code hw) (by rw[Iv fc];exact k)) (ai (U rfl) aw)) rfl) (ai (U rfl) aw)) (ID D B fl λG A=>?_)));exact ko (v:=.int k2) (U rfl) (h G k2 _ C A)
 .rw[hb]at y;refine cu (bq (m rfl) aq y) ?_;have z:=w.2.nA hw (H:=H);have tp:∀{a b:O}{e:En},Ev (ar [aW a,aW b]) e H (.tup [a,b]):=λK X k=>k;refine h.bc (λhe h=>?_) λhe h=>?_
  .rw[he]at z;exact ct (bq (m rfl) tp z) (xm (dR (U rfl) (de R.rd rfl) (ai (U rfl) (ai (U rfl) (ai (U rfl) aw))) (aeU hi p.nx Z B h)))
  .rw[he]at z;refine cu (bq (m rfl) tp z) (iL (dR (U rfl) (de R.rd rfl) (ai (U rfl) (ai (U rfl) (ai (U rfl) aw))) (PT hw p.nx R E (dB.xU (P:=HR H0 is r s d Γ ti K) h Z.u Z.qI λq F e h=>zo h (Z.u.t e) λh k2 C S2=>?_))));refine oI (a:=[Y (.ref r),Y (.ref i),Y (a8 (.tok w r1 c1)),Y (.lst (aL is)),Y (.int k2),LA,LA,Y (.tup (iA q.1))]) rfl ?_;exact fL (ya (Z.up e S2) B rfl (v:=q.1) (U rfl) λG _ A=>cW (v:=.int k2) (U rfl) (h G k2 _ C A))
end
noncomputable def SE:Itm->c9 | .br is _ _=>.run is (is.drop 1) LB LA | .tok ..=>.cls
def BJ(Γ:bV)(c:Co)(t:List Itm):Ro (Co×List c9):=cond (nu t) .stuck (pG c.ks (kL Γ c.ks t) λu=>sU u.2.2.1 (match u.2.1 with
 | [it]=>mf (eJ it == oD) (.ok (⟨c.body,c.fh,u.2.2.1⟩,[.run [] [] W LA,.wY [4,u.1],SE it,.cls]))
 |_=>.stuck) u.2.2.2)
def yE(Γ:bV)(c:Co)(w:OW)(r1 a:Nat)(t:List Itm):Ro (Co×List c9) :=cond (w.1.txt == fP) (BJ Γ c t) (cond w.1.iY ((vi Γ c w t).bind λq=>.ok (q.2,[.run (.tok w r1 a::t) q.1 LB LA,.cls])) (pG c.ks (iT Γ c.ks w r1 a t) λu=>sU u.2.2.1 (.ok (⟨c.body,c.fh,u.2.2.1⟩,[.run (.tok w r1 a::t) u.2.1 W LA,.emit u.1])) u.2.2.2))
def vV(Γ:bV)(c:Co):Itm->Ro (Co×List c9)
 | .br (.tok w r1 c1::t) _ _=>cond (nW w.1.sort) .stuck (cond (w.1.txt == iK) .stuck (yE Γ c w r1 c1 t))
 |_=>.stuck
section
variable{K:bj}{X:KX}{H0 H G:List MO}{is:List Itm}{k:Nat}{it:Itm}{t:List Itm}{i j r d s:Nat}{Γ:bV}{ks ks':List Kd}{q:Kd}{ls:List Nat}{c:Co}{ti:List (c9×Nat)}
theorem ahg{a b e:Type}{x:Res a}{f:a->Ro b}{g:b->Ro e}:(pG ks x f).bind g=pG ks x λu=>(f u).bind g:=by cases x<;>rfl
theorem adl{a b:Type}{x:Ro a}{g:a->Ro b}:(sU ks x l).bind g=sU ks (x.bind g) l:=by cases l<;>rfl
theorem Na{a e:Type}{b:Bool}{x y:Ro a}{g:a->Ro e}:(cond b x y).bind g=cond b (x.bind g) (y.bind g):=by cases b<;>rfl
theorem aeE(x:c9×Nat):(gU x).Nodup:=by
 obtain⟨a,i⟩:=x;cases a with
 |run=>exact VI.mpr ⟨List.not_mem_nil,am6⟩
 |_=>exact am6
theorem Q3(h:(own ti).Nodup)(n:∀i,i∈gU x->¬i∈own ti):(own (x::ti)).Nodup:=by
 show(gU x++own ti).Nodup;rw[al1];exact⟨aeE x,h,λa f b hb e=>n a f (by rw[e];exact hb)⟩
theorem Sx.push(Z:Sx H0 H r s d Γ c ls ti)(e:gL H x)(n:∀i,i∈gU x->¬i∈own ti)(b:∀i,i∈gU x->r<=i):Sx H0 (H.set (r+3) (.lst ((x::ti).map tA).reverse)) r s d Γ c ls (x::ti) :=
 Z.tasks (λy a=>by cases a with|head=>exact e|tail _ a=>exact Z.S.ta y a) (Q3 Z.S.nd n) λi hi=>by
  rcases akm.mp (show i∈gU x++own ti from hi) with hi|hi
  .exact b i hi
  .exact Z.nw i hi
theorem Ef(Z:Sx H0 H r s d Γ c ls ti)(he:e[0]?=Y (Y (.ref r)))(f:bf ti 1000=W)(p:gL H x)(n:∀i,i∈gU x->¬i∈own ti)(l:∀i,i∈gU x->r<=i)(hm:Ev m e H (tA x))(h:∀G:List MO,(∀(i C:Nat) (fs:List (Str×O)),H[i]?=Y (MO.inst C fs)->G[i]?=Y (MO.inst C fs))->Sx H0 G r s d Γ c ls (x::ti)->K .none G):aH dG [] (au iX [695] [] ak) [m] e H K X:=by
 have b:fits (ti.map tA).reverse=W:=cC (by rw[abj,QC];have:=eg f;lia);refine ir (C5 Z.S.rx.rd he) (ie Z.S.tk) l9 (kK (xs:=[tA x]) (ai hm aw) (oI (oa Z.S.tk b) ?_));have a:=Z.push p n l;rw[VR,adI]at a;exact h _ (λi C fs e=>sn e (ka Z.S.tk e (aaU (ajv _)))) a
theorem Eg(Z:Sx H0 H r s d Γ c ls ti)(he:e[0]?=Y (Y (.ref r)))(fl:bf ti 1000=W)(h1:Ev m1 e H (.lst (aL is)))(A:Ev m2 e H (.int k))(p:Ps is k t)(h:∀(G:List MO) i,(∀(i C:Nat) (fs:List (Str×O)),H[i]?=Y (MO.inst C fs)->G[i]?=Y (MO.inst C fs))->Sx H0 G r s d Γ c ls ((.run is t f LA,i)::ti)->K .none G):aH dG [] (au iX [695] [] ak) [aB lC [m1,m2,aW (.bool f)]] e H K X:=by
 refine ir (C5 Z.S.rx.rd he) (ie Z.S.tk) l9 ?_;show aB lC _ _ _ _ _;refine d7 (ai h1 (ai A (ai aq aw))) (SG ?_);have a:=Z.le (Le.n H (jF is k f LA));have b:=eG H (jF is k f LA);have m:=RO Z.S.ta;have w:=amh Z.lt;have ki:∀(i C:Nat) (fs:List (Str×O)),H[i]?=Y (MO.inst C fs)->(H++[jF is k f LA])[i]?=Y (MO.inst C fs):=λi C fs e=>(Le.n H _).g e;generalize H.length=y at b m w ⊢;generalize H++[jF is k f LA]=H1 at a b ki ⊢;have z:fits (ti.map tA).reverse=W:=cC (by rw[abj,QC];have:=eg fl;lia);refine oI (oa a.S.tk z) ?_;have l:=a.push (x:=(.run is t f LA,y)) ⟨k,p,b⟩ (λi hi=>by cases hi with|head=>exact m|tail _ h=>exact fj h) (λi hi=>by cases hi with|head=>exact w|tail _ h=>exact fj h);rw[VR,adI]at l;exact h _ y (λi C fs e=>sn (ki i C fs e) (ka a.S.tk (ki i C fs e) (aaU (ajv _)))) l
def HP(H0:List MO)(r s d:Nat)(Γ:bV)(ti:List (c9×Nat))(K:bj)(q:Co×List c9)(G:List MO):Prop:=∀a b,b.map (·.1)=q.2->Sx H0 G r s d Γ q.1 a (b++ti)->K .none G
structure La (H0 G:List MO) (r s d:Nat) (Γ:bV) (c:Co) (ls:List Nat) (ti:List (c9×Nat)) (k8:Nat) (lt:List (c9×Nat)):Prop where
 Z:Sx H0 G r s d Γ c ls ti
 k:G[k8]?=Y (.lst (lt.map tA).reverse)
 b:r+3 < k8
 ta:∀x,x∈lt++ti->gL G x
 nd:(own (lt++ti)).Nodup
 nw:∀i,i∈own (lt++ti)->r<=i
 f:lt.length<=10
theorem Sx.gn(Z:Sx H0 H r s d Γ c ls ti)(a:H[x]?=Y (.lst l))(b:r+3 < x):Sx H0 (H.set x m) r s d Γ c ls ti :=
 have:=Z.S.rx.rr
 ⟨⟨Z.S.rx.lst a (by lia) (by lia),Z.S.ln,sn Z.S.bd (by lia),sn Z.S.tk (by lia),λy e=>xt (Z.S.ta y e) a,Z.S.nd⟩,Z.u.st (Z.no (by lia)) _,Z.h0,Z.nw⟩
section
variable{k8:Nat}{lt:List (c9×Nat)}
theorem La.le(A:La H0 H r s d Γ c ls ti k8 lt)(e:Le H G):La H0 G r s d Γ c ls ti k8 lt:=⟨A.Z.le e,e.g A.k,A.b,λx a=>(A.ta x a).up e λ_ _ _ _ _=>rfl,A.nd,A.nw,A.f⟩
theorem La.add(A:La H0 H r s d Γ c ls ti k8 lt)(h:gL H x)(n:∀i,i∈gU x->¬i∈own (lt++ti))(f:∀i,i∈gU x->r<=i)(e:lt.length<=9):La H0 (H.set k8 (.lst ((x::lt).map tA).reverse)) r s d Γ c ls ti k8 (x::lt) :=
 ⟨A.Z.gn A.k A.b,dW A.k _,A.b,λy a=>xt (by cases a with|head=>exact h|tail _ a=>exact A.ta y a) A.k,Q3 A.nd n,λi hi=>by
  rcases akm.mp (show i∈gU x++own (lt++ti) from hi) with hi|hi
  .exact f i hi
  .exact A.nw i hi,VT e⟩
theorem La.fits(A:La H0 H r s d Γ c ls ti k8 lt):fits (lt.map tA).reverse=W:=cC (by rw[abj,QC];have:=A.f;lia)
theorem Zz(A:La H0 H r s d Γ c ls ti k8 lt)(f:e[8]?=Y (Y (.ref k8)))(b:gU x=[])(p:gL H x)(l:lt.length<=9)(hm:Ev m e H (tA x))(h:∀G,La H0 G r s d Γ c ls ti k8 (x::lt)->K .none G):aH dG [] fX [m] e H K X:=by
 refine ir (U f) (ie A.k) l9 (kK (xs:=[tA x]) (ai hm aw) (oI (oa A.k A.fits) ?_));have a:=A.add p (λi hi=>by rw[b]at hi;exact fj hi) (λi hi=>by rw[b]at hi;exact fj hi) l;rw[VR,adI]at a;exact h _ a
theorem MF(A:La H0 H r s d Γ c ls ti k8 lt)(z:e[8]?=Y (Y (.ref k8)))(B:lt.length<=9)(h1:Ev m1 e H (.lst (aL is)))(y:Ev m2 e H (.int k))(p:Ps is k t)(h:∀G i,La H0 G r s d Γ c ls ti k8 ((.run is t f LA,i)::lt)->K .none G):aH dG [] fX [aB lC [m1,m2,aW (.bool f)]] e H K X:=by
 refine ir (U z) (ie A.k) l9 ?_;show aB lC _ _ _ _ _;refine d7 (ai h1 (ai y (ai aq aw))) (SG ?_);have a:=A.le (Le.n H (jF is k f LA));have b:=eG H (jF is k f LA);have fy:=RO A.ta;have m:=amh A.Z.lt;generalize H.length=w at b fy m ⊢;generalize H++[jF is k f LA]=H1 at a b ⊢;refine oI (oa a.k a.fits) ?_;have l:=a.add (x:=(.run is t f LA,w)) ⟨k,p,b⟩ (λi hi=>by cases hi with|head=>exact fy|tail _ h=>exact fj h) (λi hi=>by cases hi with|head=>exact m|tail _ h=>exact fj h) B;rw[VR,adI]at l;exact h _ w l
theorem ZA(A:La H0 H r s d Γ c ls ti k8 lt)(b:e[0]?=Y (Y (.ref r)))(l:e[8]?=Y (Y (.ref k8)))(fl:bf ti 1000=W)(h:∀G,Sx H0 G r s d Γ c ls (lt++ti)->K .none G):aH lN [] (au iX [695] [] ak) [fX] e H K X:=by
 have Z:=A.Z;have e1:((lt++ti).map tA).reverse=(ti.map tA).reverse++(lt.map tA).reverse:=by rw[ajG,List.reverse_append]
 have a:fits ((ti.map tA).reverse++(lt.map tA).reverse)=W:=cC (by rw[LN,abj,abj,QC,QC];have:=eg fl;have:=A.f;lia);refine ir (C5 Z.S.rx.rd b) (ie Z.S.tk) vX (kK (xs:=[.ref k8]) (ai (U l) aw) (oI (xW Z.S.tk (kX A.k) a) ?_));rw[←e1];exact h _ (Z.tasks A.ta A.nd A.nw)
end
end
section
variable{K:bj}{X:KX}{H0 H G:List MO}{is:List Itm}{k:Nat}{it:Itm}{t:List Itm}{i j r d s:Nat}{Γ:bV}{ks ks':List Kd}{q:Kd}{ls:List Nat}{c:Co}{ti:List (c9×Nat)}
theorem ZC{as:List (EM O)}(a:jI as e H xs)(f:fits xs=W)(h:K (.ref H.length) (H++[.lst xs])):gc as e H K X:=a _ _ (bI f h)
theorem ahb{q:Str}(hq:(iK == q)=LB)(h:(eJ it == q)=W)(sm:iM it=W):∃a f e,it = .br a f e/\Ps a 1 (a.drop 1):=by
 refine CU (Mz h hq) λl a f e b=>?_;subst b;exact⟨_,_,_,rfl,(Ps.of sm).nx⟩
theorem agA(p:Ps is a t)(H:List MO):wV (.lst (aL is)) (Y (a:Int)) (Y (a:Int)) LA H=Y (.lst (aL [])):=by
 show alt LA (alt (gd (b6 LB&&fits (aL is)) (Y (O.lst (pj (aL is) (Y (a:Int)) (Y (a:Int)) LA)))) _)=_;rw[ER p.s,aeQ _ (LL _) (by rw[kP];exact p.b),anD];rfl
theorem abD(p:Ps is 1 t)(Z:Sx H0 H r s d Γ c ls ti)(fl:bf ti 1000=W)(T:bf c.ks 1000=W)(h:dB H0 s Γ (HP H0 r s d Γ ti K) X (BJ Γ c t)):Bl [.ref r,a8 (.tok w r1 c1),.lst (aL is)] H K X:=by
 unfold Bl;refine h.bc (λ_ h=>h.elim) λhs h=>?_;refine j5 (iL (dR (U rfl) (de Z.S.rx.rd rfl) (ai (U rfl) (ai (U rfl) (ai aq aw))) (HV (k:=1) p hs λfs=>?_)));refine oI (a:=[Y (.ref r),Y (a8 (.tok w r1 c1)),Y (.lst (aL is)),Y (.ref H.length),Y (.int (1:Nat)),LA,LA,LA,LA]) rfl ?_;have l:=Z.le (Le.n H (.inst 501 fs));refine iL (dR (U rfl) (de l.S.rx.rd rfl) (ai (U rfl) (ai (U rfl) aw)) (D7 p l.S.rx.rd l.qI T (h.xU l.u l.qI λq F e h=>zo h (l.u.t e) λh k2 f S2=>?_)));obtain⟨b,t2,D,M⟩:=q;refine oI (a:=[Y (.ref r),Y (a8 (.tok w r1 c1)),Y (.lst (aL is)),Y (.ref H.length),Y (.int k2),Y (.int b),LA,LA,LA]) rfl ?_;have y:=l.up e S2;generalize H.length=E;cases t2 with
 |nil=>exact h.elim
 |cons it t3=>cases t3 with
 |cons=>exact h.elim
 |nil =>
 have f:Ps is k2 [it]:=f;refine bg h.gr λhq h=>?_;refine eS (U rfl) ?_;show iq _ _ _ _ _ _;rw[Aj];have z:∀{x7 x8:Option O}{F:List MO},Ev (ao (aF ay) aD cq) [Y (.ref r),Y (a8 (.tok w r1 c1)),Y (.lst (aL is)),Y (.ref E),Y (.int k2),Y (.int b),Y (.int k2),x7,x8] F (a8 it):=aV (U rfl) (U rfl) (nv f _);refine(show Ev _ _ _ LB from gO (by walk_at "e") (jg (bq (p7 f.sm z) aq (Iy hq rfl)))) _ _ (cF rfl ?_);have L:∀{i:Nat}{e:En}{F:List MO}{a:Int},e[2]?=Y (Y (.lst (aL is)))->e[i]?=Y (Y (.int a))->Ev (aC ef (Loc i) (bW aD)) e F (decide (a < is.length)):=λh2 hi=>bq (U hi) (dy (U h2) (qu f _)) (o7 rfl);have m:=IS f.nx;refine cu (bq (U rfl) (dy (U rfl) (qu f F)) (sZ (Ew f))) (eS (v:=.int (k2+1:Nat)) (aV (U rfl) aq rfl) (fK (ZC (xs:=[.tup [.str pz,.none]]) (ai (cA (ai aq (ai aq aw)) rfl) aw) rfl ?_)));refine aeH (ahb rfl hq f.sm) λC r2 N Q pt=>?_;subst Q;have B:=eG F (.lst [.tup [.str pz,.none]]);have A:La H0 (F++[.lst [.tup [.str pz,.none]]]) r s d Γ ⟨c.body,c.fh,D⟩ ls ti F.length [(.cls,0)] :=
  have I:=y.le (Le.n F (.lst [.tup [.str pz,.none]]))
  ⟨I,B,(Sa.mp y.S.tk).1,λx z=>(by cases z with|head=>trivial|tail _ h=>exact I.S.ta x h),y.S.nd,y.nw,(by show 1<=10;decide)⟩
 generalize F.length=k8 at A ⊢;generalize F++[MO.lst [.tup [.str pz,.none]]]=F at A ⊢;refine cu (jg (by rw[←m];exact L rfl rfl)) (cu (by rw[←m];exact L rfl rfl) ?_);refine fL (MF A rfl (by show 1<=9;decide) (cR z vB rfl) (show Ev (aj 1) _ _ (.int (1:Nat)) from aq) pt λG i1 A=>?_);refine fL (Zz A rfl (x:=(.wY [4,b],E)) rfl trivial (by show 2<=9;decide) (cA (ai aq (ai (cA (ai (cA (ai aq (ai (U rfl) aw)) rfl) (ai (U rfl) aw)) rfl) aw)) rfl) λG A=>?_);refine fL (MF (t:=[]) A rfl (by show 3<=9;decide) (Bi (U rfl) (U rfl) (U rfl) aq rfl rfl rfl (agA f G)) (show Ev (aj 0) _ _ (.int (0:Nat)) from aq) ⟨rfl,LL _,(by decide),rfl⟩ λG i2 A=>?_);exact(show bp _ _ _ _ _ from ZA A rfl rfl fl λG Z=>h G ls [(.run [] [] W LA,i2),(.wY [4,b],E),(SE (.br C r2 N),i1),(.cls,0)] rfl Z)
end
noncomputable def jT(b:Option Nat)(n:Nat):Nat:=match b with|some b=>b|none=>n
def xj(Γ:bV)(c:Co)(ts:List c9)(is t:List Itm)(f:Bool)(b:Nat):Ro (Co×List c9):=match t with
 | []=>cond (VE b c.fh) .stuck (.ok (c,ts))
 |it::a=>cond (Cf it) ((vV Γ c it).bind λq=>.ok (q.1,q.2++(.run is a f (Y b)::ts))) (match it with
  | .tok w r1 e=>cond (f||nW w.1.sort) .stuck ((nN Γ c b w r1 e a).bind λq=>.ok (q.2,.run is q.1 f (Y b)::ts))
  | .br ..=>.stuck)
section
variable{K:bj}{X:KX}{H0 H G:List MO}{is:List Itm}{k:Nat}{it:Itm}{t:List Itm}{i j r d s:Nat}{Γ:bV}{ks ks':List Kd}{q:Kd}{ls:List Nat}{c:Co}{ti:List (c9×Nat)}
theorem dB.imp{a e:Type}{x:Ro a}{f:a->Ro e}{P:e->List MO->Prop}{b:a->List MO->Prop}(h:dB H0 s Γ P X (x.bind f))(k:∀v G,dB H0 s Γ P X (f v)->b v G):dB H0 s Γ b X x:=by
 cases x with
 |stuck=>exact h
 |ok v=>exactλG=>k v G h
 |bad w r c ks=>exact h
 |left w r ks=>exact h
theorem abE(sm:iM it=W)(Z:Sx H0 H r s d Γ c ls ti)(fl:bf ti 950=W)(oc:k6 c=W)(h:dB H0 s Γ (HP H0 r s d Γ ti K) X (vV Γ c it)):yq [.ref r,a8 it] H K X:=by
 unfold yq;refine CL oc λT I L=>?_;have R:=Z.S.rx;have y:∀{x:c9×Nat},bf (x::ti) 1000=W:=cC (by have:=eg fl;simp only[VN];lia);have l:bf ti 1000=W:=cC (by have:=eg fl;lia);refine fun2 (eS (p7 sm (U rfl)) ?_);cases it with
 |tok=>exact h.elim
 |br E z m=>cases E with
 |nil=>exact h.elim
 |cons a t=>cases a with
  |br=>exact h.elim
  |tok w r1 b =>
  refine h.bc (λ_ h=>h.elim) λhw h=>h.bc (λ_ h=>h.elim) λhz h=>?_;have Q:eJ (.br (.tok w r1 b::t) z m)=w.1.txt:=by show cond _ _ _=_;rw[hw];rfl
  rw[Q];refine cu (by walk_at "e") ?_;have p:=Ps.of sm;have Cr:Ev aqD [Y (.ref r),Y (a8 (.br (.tok w r1 b::t) z m)),Y (.str w.1.txt),LA,LA,LA,LA,LA,LA] H (a8 (.tok w r1 b)):=aV (cR (U rfl) vB rfl) aq (nv (k:=0) p H);refine i6 (xs:=[a8 (.tok w r1 b),.lst (aL (.tok w r1 b::t))]) (cA (ai Cr (ai (cR (U rfl) vB rfl) aw)) rfl) rfl ?_;refine h.bc (λhi h=>?_) λhi h=>?_
  .exact oH (by walk_at "e") (show bp _ _ _ _ _ from dR (U rfl) (de R.rd rfl) (ai (U rfl) (ai (U rfl) aw)) (abD p.nx Z l I h))
  refine j7 (by walk_at "e") ?_;have B:=w.2.iY hw (H:=H);refine h.bc (λhb h=>?_) λhb h=>?_
  .rw[hb]at B;unfold vi at h;rw[Na,ahg]at h;refine h.bc (λ_ h=>h.elim) λhs h=>?_;refine oH (bq (U rfl) aq B) (iL (dR (U rfl) (de R.rd rfl) (ai (U rfl) (ai (U rfl) (ai aq aw))) (HV (k:=1) p.nx hs λfs=>?_)));refine oI (a:=[Y (.ref r),Y (a8 (.br (.tok w r1 b::t) z m)),Y (.str w.1.txt),Y (a8 (.tok w r1 b)),Y (.lst (aL (.tok w r1 b::t))),Y (.ref H.length),Y (.int (1:Nat)),LA,LA]) rfl ?_;have f:=Z.le (Le.n H (.inst 501 fs));refine iL (dR (U rfl) (de f.S.rx.rd rfl) (ai (U rfl) (ai (U rfl) aw)) (D7 p.nx f.S.rx.rd f.qI I (h.xU f.u f.qI λq F e h=>?_)));rw[adl]at h;refine zo h (f.u.t e) λh k2 M S2=>?_;rw[Na]at h;refine h.bc (λ_ h=>h.elim) λfc h=>?_;refine oI (a:=[Y (.ref r),Y (a8 (.br (.tok w r1 b::t) z m)),Y (.str w.1.txt),Y (a8 (.tok w r1 b)),Y (.lst (aL (.tok w r1 b::t))),Y (.ref H.length),Y (.int k2),Y (.int q.1),LA]) rfl ?_;have A:=f.up e S2;refine fL (dR (U rfl) (de A.S.rx.rd rfl) (ai (x:=.tup (iA [(oN w.1.code:Int),q.1])) (cA (ai (jh (ai (U rfl) aw) λK X k=>q9 (w.2.code hw) (by rw[Iv fc];exact k)) (ai (U rfl) aw)) rfl) (ai (U rfl) aw)) (ID A T L λG N=>?_));refine fL (Ef N rfl l (x:=(.cls,0)) trivial (λi hi=>by exact fj hi) (λi hi=>by exact fj hi) (cA (ai aq (ai aq aw)) rfl) λG _ C=>?_);exact(show bp _ _ _ _ _ from Eg C rfl y (U rfl) (U rfl) M λG i _ D=>h G _ [(.run (.tok w r1 b::t) q.2.1 LB LA,i),(.cls,0)] rfl D)
  .rw[hb]at B;refine j7 (bq (U rfl) aq B) (iL (dR (U rfl) (de R.rd rfl) (ai (U rfl) (ai (U rfl) (ai aq aw))) (PT (k:=1) hw p.nx R I (dB.xU (P:=HP H0 r s d Γ ti K) h Z.u Z.qI λq F e h=>zo h (Z.u.t e) λh k2 M S2=>?_))));refine oI (a:=[Y (.ref r),Y (a8 (.br (.tok w r1 b::t) z m)),Y (.str w.1.txt),Y (a8 (.tok w r1 b)),Y (.lst (aL (.tok w r1 b::t))),LA,Y (.int k2),LA,Y (.tup (iA q.1))]) rfl ?_;have A:=Z.up e S2;refine fL (Ef A rfl l (x:=(.emit q.1,0)) trivial (λi hi=>by exact fj hi) (λi hi=>by exact fj hi) (cA (ai aq (ai (U rfl) aw)) rfl) λG _ C=>?_);exact(show bp _ _ _ _ _ from Eg C rfl y (U rfl) (U rfl) M λG i _ D=>h G _ [(.run (.tok w r1 b::t) q.2.1 W LA,i),(.emit q.1,0)] rfl D)
def zk(H0:List MO)(r s d:Nat)(Γ:bV)(K:bj)(q:Co×List c9)(G:List MO):Prop:=∀b a,a.map (·.1)=q.2->Sx H0 G r s d Γ q.1 b a->K .none G
theorem Sx.ins(Z:Sx H0 H r s d Γ c ls ti)(hi:H[i]?=Y (.inst 522 fs))(n:¬i∈own ti)(e:r<=i):Sx H0 (H.set i (.inst 522 fs')) r s d Γ c ls ti :=⟨⟨Z.S.rx.ins hi (by decide) (by decide),Z.S.ln,sn Z.S.bd (ka hi Z.S.bd (show(524:Nat)≠0 by decide)),sn Z.S.tk (ka hi Z.S.tk (show(524:Nat)≠0 by decide)),λx a=>(Z.S.ta x a).st λj b q=>n (by rw[←q];exact IG a b),Z.S.nd⟩,Z.u.st (Z.no e) _,Z.h0,Z.nw⟩
theorem Sx.run(Z:Sx H0 H r s d Γ c ls ((.run is t f b,i)::ti))(l:Ps is k' t'):Sx H0 (H.set i (jF is k' f b')) r s d Γ c ls ((.run is t' f b',i)::ti):=by
 refine aM (Z.S.ta _ (ajm ..)) λk p hi=>?_;have h:¬i∈own ti:=(VI.mp (show(i::own ti).Nodup from Z.S.nd)).1;exact⟨⟨Z.S.rx.ins hi (by decide) (by decide),Z.S.ln,sn Z.S.bd (ka hi Z.S.bd (show(524:Nat)≠0 by decide)),by
  have:=sn (m:=jF is k' f b') Z.S.tk (ka hi Z.S.tk (show(524:Nat)≠0 by decide));exact this,λx a=>by
  cases a with
  |head=>exact⟨k',l,dW hi _⟩
  |tail _ a=>exact(Z.S.ta x (alx _ a)).st λj e q=>h (by rw[←q];exact IG a e),Z.S.nd⟩,Z.u.st (Z.no (Z.nw i (ajm ..))) _,Z.h0,Z.nw⟩
theorem PB(h:m e H (λv G=>o e G (λx G=>oP (mF n cs es x v G) λG=>Kf .next e G) (xE Xf e)) (xE Xf e)):cY n cs es o m e H Kf Xf:=h
theorem Zr(a b:Nat):decide ((a:Int)< (b:Int))=VE a b:=by
 rw[blt_eq];by_cases h:a < b
 .rw[VW h,VW (by lia)]
 .rw[aer h,aer (by lia)]
theorem af5(Z:Sx H0 H r s d Γ c ls ti)(hi:H[i]?=Y (jF is k f b))(p:Ps is k t)(M:¬i∈own ti)(N:r<=i)(T:k6 c=W)(fl:ti.length<=900)(h:dB H0 s Γ (zk H0 r s d Γ K) X (xj Γ c (ti.map (·.1)) is t f (jT b c.fh))):Br [.ref r,.ref i] H K X:=by
 unfold Br;have ln:=Z.S.ln;have l:∀{m:Nat}{H:List MO},Sx H0 H r s d Γ c ls ti->H[i]?=Y (jF is k f (Y m))->dB H0 s Γ (zk H0 r s d Γ K) X (xj Γ c (ti.map (·.1)) is t f m) ->
   apY [Y (.ref r),Y (.ref i),LA] H (eA K) (λC fs _ H=>X C fs H):=by
  intro m H Z hi h;have R:=Z.S.rx;have Q:Ev aqU [Y (.ref r),Y (.ref i),LA] H (.lst (aL is)):=cR (U rfl) (gh hi rfl rfl) rfl;have aE:Ev aqW [Y (.ref r),Y (.ref i),LA] H (.int k):=cR (U rfl) (gh hi rfl rfl) rfl;have L:=bq aE (dy Q (qu p H)) (sZ (Ew p));cases t with
  |nil =>
   refine ct L (fA ?_);refine h.bc (λ_ h=>h.elim) λhb h=>?_;exact cu (bq (dy (xg R.rd rfl) (HZ R)) (y:=.int m) (cR (U rfl) (gh hi rfl rfl) rfl) (wM (by rw[Zr,ln];exact hb))) (h H ls ti rfl Z)
  |cons it t' =>
   refine cu L (eS (v:=a8 it) (aV Q aE (nv p H)) (fL (Ef Z rfl (cC (by lia)) (x:=(.run is (it::t') f (Y m),i)) ⟨k,p,hi⟩ (λj I=>by cases I with|head=>exact M|tail _ h=>exact fj h) (λj I=>by cases I with|head=>exact N|tail _ h=>exact fj h) (cA (ai aq (ai (U rfl) aw)) rfl) λG ki B=>?_)));have a:=ki _ _ _ hi;have bE:Ev (cJ (jJ ji aD (aW (.gl 230)))) [Y (.ref r),Y (.ref i),Y (a8 it)] G (Cf it):=iw (Bf (U rfl) aq (HI it G)) rfl;refine h.bc (λhb h=>?_) λhb h=>?_
   .rw[hb]at bE;refine oH bE (ib (v:=.int (k+1:Nat)) (aV (cR (U rfl) (gh a rfl rfl) rfl) aq rfl) (U rfl) (qD a rfl) ?_);have A:Sx H0 (G.set i (jF is (k+1) f (Y m))) r s d Γ c ls ((.run is t' f (Y m),i)::ti):=B.run p.nx;exact(show bp _ _ _ _ _ from dR (U rfl) (de A.S.rx.rd rfl) (ai (U rfl) aw) (abE p.sm A (cC (by simp only[VN];lia)) T (h.imp λv G h z nt e Z=>h G z _ (by rw[ajG,e];rfl) Z)))
   .rw[hb]at bE;refine j7 bE ?_;cases it with
    |br=>cases hb
    |tok w r1 c1 =>
    refine h.bc (λ_ h=>h.elim) λD h=>?_;have fE:Ev (cJ (au qg [522] [] ax)) [Y (.ref r),Y (.ref i),Y (a8 (.tok w r1 c1))] G f:=iw (cR (U rfl) (gh a rfl rfl) rfl) rfl;have hw:nW w.1.sort=LB:=by cases f with|true=>cases D|false=>exact D
    cases f with
    |true=>cases D
    |false =>
    refine j7 (mY fE (mY (bq (cR (U rfl) AM rfl) aq (Iw hw)) (by walk_at "e"))) (PB (dR (U rfl) (de B.S.rx.rd rfl) (ai (U rfl) (ai (U rfl) aw)) (aeV hw a p B T (dB.imp (P:=zk H0 r s d Γ K) h λv G h k2 z p2 A=>?_))));refine aM (A.S.ta _ (ajm ..)) λk3 p3 E=>?_;exact(show Ev ax _ G (O.ref i) from U rfl) _ _ (oI (qD E rfl) (h _ z _ rfl (A.run p2)))
 cases b with
 |none =>
  refine fun2 (ct (bq (cR (U rfl) (gh hi rfl rfl) rfl) aq rfl) (ib (dy (xg Z.S.rx.rd rfl) (HZ Z.S.rx)) (U rfl) (qD hi rfl) ?_));have h:dB H0 s Γ (zk H0 r s d Γ K) X (xj Γ c (ti.map (·.1)) is t f ls.length):=by rw[ln];exact h
  exact l (Z.ins hi M N) (dW hi (jF is k f (Y ls.length))) h
 |some b=>exact fun2 (cu (bq (cR (U rfl) (gh hi rfl rfl) rfl) aq rfl) (l Z hi h))
end
def Ac(Γ:bV)(c:Co)(ts:List c9):c9->Ro (Co×List c9)
 | .emit v=>.ok (⟨c.body++[v],c.fh,c.ks⟩,ts)
 | .wY v=>.ok (⟨c.body++[v],c.fh+1,c.ks⟩,ts)
 | .cls=>match c.fh with|n+1=>.ok (⟨c.body++[[11]],n,c.ks⟩,ts)|0=>.stuck
 | .run is t f b=>xj Γ c ts is t f (jT b c.fh)
def eR(Γ:bV):Nat->Co->List c9->Ro Co
 |0,_,_=>.stuck
 |n+1,c,ts=>mf (k6 c) (match ts with
  | []=>.ok ⟨c.body++[[11]],c.fh,c.ks⟩
  |x::ts=>mf (bf ts 900) ((Ac Γ c ts x).bind λq=>eR Γ n q.1 q.2))
section
variable{K:bj}{X:KX}{H0 H G:List MO}{is:List Itm}{k:Nat}{it:Itm}{t:List Itm}{i j r d s:Nat}{Γ:bV}{ks ks':List Kd}{q:Kd}{ls:List Nat}{c:Co}{ti:List (c9×Nat)}
theorem agS(Z:Sx H0 H r s d Γ c ls ti)(A:gL H x)(y:∀i,i∈gU x->¬i∈own ti)(z:∀i,i∈gU x->r<=i)(w:k6 c=W)(fl:ti.length<=900)(h:dB H0 s Γ (zk H0 r s d Γ K) X (Ac Γ c (ti.map (·.1)) x.1)):Bt [.ref r,tA x] H K X:=by
 unfold Bt;refine CL w λe _ l=>?_;have R:=Z.S.rx;obtain⟨a,i⟩:=x;cases a with
 |emit v =>
  refine fun2 (i6 (xs:=[.str zS,.tup (iA v)]) (U rfl) rfl (oH (by walk_at "e") ?_));exact(show bp _ _ _ _ _ from ya Z e rfl (v:=v) (U rfl) λG _ Z=>h G ls ti rfl Z)
 |wY v =>
  refine fun2 (i6 (xs:=[.str BV,.tup [.tup (iA v),.ref i]]) (U rfl) rfl (j7 (by walk_at "e") (oH (by walk_at "e") ?_)));refine(show bp _ _ _ _ _ from dR (U rfl) (de R.rd rfl) (ai (x:=.tup (iA v)) (aV (U rfl) aq rfl) (ai (x:=.ref i) (aV (U rfl) aq rfl) aw)) (ID Z e l λG Z=>h G _ ti rfl Z))
 |cls =>
  refine fun2 (i6 (xs:=[.str pz,.none]) (U rfl) rfl (j7 (by walk_at "e") (j7 (by walk_at "e") (oH (by walk_at "e") ?_))));obtain⟨body,n,ks⟩:=c;cases n with
  |zero=>exact h.elim
  |succ n=>exact(show bp _ _ _ _ _ from dR (U rfl) (de R.rd rfl) aw (MU Z rfl e λG m Z=>h G m ti rfl Z))
 |run is t f b =>
  refine aM A λk p hi=>?_;refine fun2 (i6 (xs:=[.str jS,.ref i]) (U rfl) rfl (j7 (by walk_at "e") (j7 (by walk_at "e") (j7 (by walk_at "e") ?_))));exact(show bp _ _ _ _ _ from dR (U rfl) (de R.rd rfl) (ai (U rfl) aw) (af5 Z hi p (y i (ajm ..)) (z i (ajm ..)) w fl h))
def zj(H0:List MO)(r s d:Nat)(Γ:bV)(K:bj)(c:Co)(G:List MO):Prop:=Up [s+2,s+3] H0 G->dm G s Γ c.ks->G[r+1]?=Y (.lst (fB c.body))->K (.ref (r+1)) G
theorem ahK(I:Nat->En->List MO->Prop)(st:∀n e G (go:En->List MO->Prop),(∀e' b,I n e' b->go e' b)->I (n+1) e G->T e G (λg H=>cP g (B e H (oU go Kf) Xf) (Kf .next e H)) (xE Xf e))(z:∀e G,I 0 e G->False)(n:Nat)(a:n<=3000)(h:I n e G):iq T B e G Kf Xf:=by
 have A:∀m n e G,n<=m->I n e G->xB T B Kf Xf m e G:=by
  intro m;induction m with
  |zero=>intro n e G a h;have:n=0:=Nat.le_zero.mp a;subst this;exact(z e G h).elim
  |succ m f =>
   intro n e G a h;cases n with
   |zero=>exact(z e G h).elim
   |succ n=>exact st n e G _ (λe' b h'=>f n e' b (ada a) h') h
 rw[Aj];exact A 3000 n e G a h
theorem ad7{k:Nat}{l:List (c9×Nat)}(h:H[k]?=Y (.lst (l.map tA).reverse)):eN (.ref k) (.lst []) H=Y (match l with | []=>LB|_::_=>W):=by
 rw[ne_nil h];cases l with
 |nil=>rfl
 |cons x l =>
  have:Im ((x::l).map tA).reverse=LB:=by
   rw[VR,adI];cases (l.map tA).reverse<;>rfl
  rw[this];rfl
theorem afO(Z:Sx H0 H r s d Γ c ls [])(L:n<=3000)(p:Ps is 0 is)(h:dB H0 s Γ (zj H0 r s d Γ K) X (eR Γ n c [.run is is LB LA])):yu [.ref r,.lst (aL is)] H K X:=by
 unfold yu;refine fun2 (fL (Eg Z rfl rfl (U rfl) (show Ev (aj 0) _ _ (.int (0:Nat)) from aq) p λG i _ Z=>?_));refine ahK (λn e G=>∃(c:Co) (ls:List Nat) (ti:List (c9×Nat)),e=[Y (.ref r),Y (.lst (aL is))]/\Sx H0 G r s d Γ c ls ti/\dB H0 s Γ (zj H0 r s d Γ K) X (eR Γ n c (ti.map λx:c9×Nat=>x.1))) ?_ ?_ n L ⟨c,ls,_,rfl,Z,h⟩
 .intro n e G go f a;refine ia a λc ls ti b Z h=>?_;subst b;have R:=Z.S.rx;have C:Ev (au iX [695] [] ak) [Y (.ref r),Y (.lst (aL is))] G (.ref (r+3)):=C5 R.rd rfl;have A:=bq C (show Ev (az []) _ G (.lst []) fromλK X k=>k) (ad7 Z.S.tk);refine bg (dB.gr (P:=zj H0 r s d Γ K) h) λB h=>CL B λI _ _=>?_;cases ti with
  |nil =>
   have h:dB H0 s Γ (zj H0 r s d Γ K) X (.ok ⟨c.body++[[11]],c.fh,c.ks⟩):=h;refine A _ _ (cF rfl (fL (ya Z I rfl (v:=[11]) (cA (ai aq aw) rfl) λG _ Z=>cW (v:=.ref (r+1)) (Sv Z.S.rx.rd rfl) (h G Z.u Z.qI Z.S.bd))))
  |cons x ti =>
   have h:dB H0 s Γ (zj H0 r s d Γ K) X (mf (bf (ti.map (·.1)) 900) ((Ac Γ c (ti.map (·.1)) x.1).bind λq=>eR Γ n q.1 q.2)):=h;refine bg h.gr λfl h=>?_;have fl:ti.length<=900:=by have:=eg fl;rw[QC]at this;exact this
   have z:=Z.S.tk;rw[VR,adI]at z;refine A _ _ (cT rfl (show bp _ _ _ _ _ from Ee (U rfl) (de R.rd rfl) ?_));show aH _ _ _ _ _ _ _ _;refine ir C (ie z) NV (oI (Mu z (cC (by rw[LN,abj,QC];simp only[VN,aaT];lia))) ?_);have nd:(gU x++own ti).Nodup:=Z.S.nd;have D:Sx H0 (G.set (r+3) (.lst (ti.map tA).reverse)) r s d Γ c ls ti:=Z.tasks (λy M=>Z.S.ta y (alx _ M)) (al1.mp nd).2.1 λi hi=>Z.nw i (am5 _ hi);have l:gL (G.set (r+3) (.lst (ti.map tA).reverse)) x:=xt (Z.S.ta x (ajm ..)) Z.S.tk;exact agS D l (λi hi hm=>(al1.mp nd).2.2 i hi i hm rfl) (λi hi=>Z.nw i (anf _ hi)) B fl (h.imp λv F h m w e E=>f _ _ ⟨v.1,m,w,rfl,E,by rw[e];exact h⟩)
 .intro e G a;refine ia a λc ls ti _ _ h=>?_;exact h
end
section
variable{K:bj}{X:KX}{H0 H G:List MO}{is:List Itm}{k:Nat}{it:Itm}{t:List Itm}{i j r d s:Nat}{Γ:bV}{ks ks':List Kd}
theorem SU(h:m e H (λv G=>o e G (λx G=>oP (mF n cs es x v G) λG=>C e G Kf Xf) (xE Xf e)) (xE Xf e)):ah (cY n cs es o m) C e H Kf Xf:=h
theorem Ik{P:List MO->Prop}(l:e[0]?=Y (Y (.ref j)))(f:G[j]?=Y (.inst C fs))(b:(bJ C cs&&bf fs 900)=W)(h:P ((G++[MO.lst []]).set j (MO.inst C (fT n (O.ref G.length) fs)))):gc [] e G (λv G=>Loc 0 e G (λx G=>oP (mF n cs es x v G) P) Xf) Xf:=by
 conv=>whnf
 exact oI (a:=.ref j) (by rw[l];rfl) (oI (qD ((Le.n G _).g f) b) h)
theorem afP(h:∀G,Le H G->G[H.length]?=Y (tq H.length s d)->G[H.length+1]?=Y (.lst [])->G[H.length+2]?=Y (.lst [])->G[H.length+3]?=Y (.lst [])->K (.ref H.length) G):xZ [.ref s,.ref d] H K X:=by
 unfold xZ;rw[fU];show Bn _ _ _ _;unfold Bn;refine j5 (ib (U rfl) (U rfl) (jl rfl) (ib (U rfl) (U rfl) (jl rfl) (SU ?_)));have f:(H++[MO.inst 695 [(d9,.ref s),(gB,.ref d)]]).length=H.length+1:=by rw[LN];rfl
 have p:=eG H (MO.inst 695 [(d9,.ref s),(gB,.ref d)]);have B:=Le.n H (MO.inst 695 [(d9,.ref s),(gB,.ref d)]);show gc [] _ (H++[MO.inst 695 [(d9,.ref s),(gB,.ref d)]]) _ _;have y:=jE H;generalize H++[MO.inst 695 [(d9,.ref s),(gB,.ref d)]]=b at f p B ⊢;refine Ik rfl p rfl (SU ?_);rw[f];have l:((b++[MO.lst []]).set H.length (.inst 695 (fT fQ (.ref (H.length+1)) [(d9,.ref s),(gB,.ref d)]))).length=H.length+2:=by rw[ajW,LN,f];rfl
 have w:((b++[MO.lst []]).set H.length (.inst 695 (fT fQ (.ref (H.length+1)) [(d9,.ref s),(gB,.ref d)])))[H.length]?=Y (.inst 695 [(d9,.ref s),(gB,.ref d),(fQ,.ref (H.length+1))]):=dW ((Le.n b _).g p) _;have b1:((b++[MO.lst []]).set H.length (.inst 695 (fT fQ (.ref (H.length+1)) [(d9,.ref s),(gB,.ref d)])))[H.length+1]?=Y (.lst []):=sn (by rw[←f];exact eG b _) (by lia);have e1:=(B.t (Le.n b (.lst []))).st y (.inst 695 (fT fQ (.ref (H.length+1)) [(d9,.ref s),(gB,.ref d)]));generalize ((b++[MO.lst []]).set H.length (.inst 695 (fT fQ (.ref (H.length+1)) [(d9,.ref s),(gB,.ref d)])))=a at l w b1 e1 ⊢;refine Ik rfl w rfl (PB ?_);rw[l];have z:((a++[MO.lst []]).set H.length (.inst 695 (fT fO (.ref (H.length+2)) [(d9,.ref s),(gB,.ref d),(fQ,.ref (H.length+1))]))).length=H.length+3:=by rw[ajW,LN,l];rfl
 have x:((a++[MO.lst []]).set H.length (.inst 695 (fT fO (.ref (H.length+2)) [(d9,.ref s),(gB,.ref d),(fQ,.ref (H.length+1))])))[H.length]?=Y (.inst 695 [(d9,.ref s),(gB,.ref d),(fQ,.ref (H.length+1)),(fO,.ref (H.length+2))]):=dW ((Le.n a _).g w) _;have b2:=sn (m:=.inst 695 (fT fO (.ref (H.length+2)) [(d9,.ref s),(gB,.ref d),(fQ,.ref (H.length+1))])) ((Le.n a (.lst [])).g b1) (show H.length≠H.length+1 by lia);have A:((a++[MO.lst []]).set H.length (.inst 695 (fT fO (.ref (H.length+2)) [(d9,.ref s),(gB,.ref d),(fQ,.ref (H.length+1))])))[H.length+2]?=Y (.lst []):=sn (by rw[←l];exact eG a _) (by lia);have e2:=(e1.t (Le.n a (.lst []))).st y (.inst 695 (fT fO (.ref (H.length+2)) [(d9,.ref s),(gB,.ref d),(fQ,.ref (H.length+1))]));generalize ((a++[MO.lst []]).set H.length (.inst 695 (fT fO (.ref (H.length+2)) [(d9,.ref s),(gB,.ref d),(fQ,.ref (H.length+1))])))=e at z x b2 A e2 ⊢;refine Ik rfl x rfl ?_;rw[z];refine h _ ((e2.t (Le.n e _)).st y _) (dW ((Le.n e _).g x) _) (sn ((Le.n e _).g b2) (by lia)) (sn ((Le.n e _).g A) (by lia)) (sn (by rw[←z];exact eG e _) (by lia))
def tm(Γ:bV)(n:Nat)(ks:List Kd)(is:List Itm):Ro Co:=eR Γ n ⟨[],0,ks⟩ [.run is is LB LA]
def Qp(H0:List MO)(s:Nat)(Γ:bV)(K:bj)(c:Co)(G:List MO):Prop:=∀b,Up [s+2,s+3] H0 G->dm G s Γ c.ks->G[b]?=Y (.lst (fB c.body))->H0[b]?=LA->K (.ref b) G
theorem Sy(S:dm H s Γ ks)(A:s+10 < H.length)(z:n<=3000)(p:Ps is 0 is)(h:dB H s Γ (Qp H s Γ K) X (tm Γ n ks is)):oq [.ref s,.ref d,.lst (aL is)] H K X:=by
 unfold oq;refine j5 (zY ?_);show aB xZ _ _ _ _ _;refine d7 (ai (U rfl) (ai (U rfl) aw)) (afP λG e l m w y=>?_);have Z:Sx H G H.length s d Γ ⟨[],0,ks⟩ [] []:=⟨⟨⟨l,S.le e,w,rfl,A⟩,rfl,m,y,λx h=>(by exact fj h),am6⟩,e.u,rfl,λi h=>by exact fj h⟩;exact dR (a:=aW (.ref H.length)) (e:=Y (.ref s)::Y (.ref d)::Y (.lst (aL is))::eV 0) (as:=[Loc 2]) (n:=sa) (tab:=[(695,yu)]) aq (de l rfl) (ai (U rfl) aw) (afO Z z p (dB.imp (P:=Qp H s Γ K) (f:=λc=>.ok c) (by cases q:tm Γ n ks is<;>(unfold tm at q;rw[q];unfold tm at h;rw[q]at h;exact h)) λc F h u B b=>h F _ u B b (VO (by lia))))
end
def W0:OW:=b8 { txt:=J 0x706f6e,code:=Y 1} (by kernel_rfl!)
def W1:OW:=b8 { txt:=J 0x646e65,gn:=W,nA:=W,code:=Y 11} (by kernel_rfl!)
def W2:OW:=b8 { txt:=J 0x6e656874,gn:=W} (by kernel_rfl!)
def W3:OW:=b8 { txt:=J 0x6b636f6c62,iY:=W,code:=Y 2,cH:=.f1} (by kernel_rfl!)
def W4:OW:=b8 { txt:=J 0x6d61726170,gn:=W} (by kernel_rfl!)
def W5:OW:=b8 { sort:=.id,txt:=J 0x7824} (by kernel_rfl!)
def W6:OW:=b8 { txt:=J 0x323369,kd:=Y (-1),gn:=W} (by kernel_rfl!)
def W7:OW:=b8 { txt:=J 0x7463657269646e695f6c6c6163,code:=Y 17,cH:=.f3} (by kernel_rfl!)
def W8:OW:=b8 { txt:=J 0x6c6c6163,code:=Y 16,cH:=.f2} (by kernel_rfl!)
def W9:OW:=b8 { sort:=.id,txt:=J 0x7124} (by kernel_rfl!)
def Kh:OW:=b8 { txt:=J 0x7465672e6c61626f6c67,code:=Y 35,cH:=.f4} (by kernel_rfl!)
def Ki:OW:=b8 { txt:=J 0x657a69732e656c626174,code:=Y 64528,cH:=.f5} (by kernel_rfl!)
def DE:OW:=b8 { txt:=J 0x706f72642e61746164,code:=Y 64521,cH:=.f7} (by kernel_rfl!)
def Kj:OW:=b8 { txt:=J 0x706f72642e6d656c65,code:=Y 64525,cH:=.f9} (by kernel_rfl!)
def jw:OW:=b8 { txt:=J 0x74696e692e656c626174,code:=Y 64524,cH:=.f8} (by kernel_rfl!)
def kG:OW:=b8 { sort:=.int,txt:=J 0x30,val:=0} (by kernel_rfl!)
def ip:OW:=b8 { txt:=J 0x65707974,gn:=W} (by kernel_rfl!)
def lu:OW:=b8 { txt:=J 0x79706f632e656c626174,code:=Y 64526,cH:=.f10} (by kernel_rfl!)
def Kk:OW:=b8 { txt:=J 0x7465732e6c61626f6c67,code:=Y 36,cH:=.f4} (by kernel_rfl!)
def XG:OW:=b8 { sort:=.int,txt:=J 0x312d,val:=-1,sg:=W} (by kernel_rfl!)
def XH:OW:=b8 { sort:=.int,txt:=J 0x36393237363934393234,val:=4294967296} (by kernel_rfl!)
def tT:OW:=b8 { txt:=J 0x343669,kd:=Y (-2),gn:=W} (by kernel_rfl!)
def xP:OW:=b8 { txt:=J 0x706f6f6c,iY:=W,code:=Y 3,cH:=.f1} (by kernel_rfl!)
def vy:OW:=b8 { sort:=.int,txt:=J 0x3939,val:=99} (by kernel_rfl!)
def jx:OW:=b8 { txt:=J 0x746c75736572,gn:=W} (by kernel_rfl!)
def Kl:OW:=b8 { txt:=J 0x6669,iY:=W,code:=Y 4,cH:=.f1} (by kernel_rfl!)
def XI:OW:=b8 { txt:=J 0x65736c65,gn:=W,nA:=W,code:=Y 5} (by kernel_rfl!)
def XJ:OW:=b8 { txt:=J 0x6464612e323366,oQ:=W} (by kernel_rfl!)
def XM:OW:=b8 { txt:=J 0x7463656c6573,code:=Y 27} (by kernel_rfl!)
def XN:OW:=b8 { txt:=J 0x343666,ln:=W} (by kernel_rfl!)
def XO:OW:=b8 { txt:=J 0x755f3436665f7461735f636e7572742e343669,oQ:=W} (by kernel_rfl!)
def XQ:OW:=b8 { txt:=J 0x38323176,ln:=W,oQ:=W} (by kernel_rfl!)
def XR:OW:=b8 { txt:=J 0x3233665f746572707265746e6965722e323369,oQ:=W} (by kernel_rfl!)
def Km:OW:=b8 { sort:=.id,txt:=J 0x307424} (by kernel_rfl!)
def Kn:OW:=b8 { sort:=.id,txt:=J 0x307524} (by kernel_rfl!)
def ly:OW:=b8 { txt:=J 0x7463657269646e695f6c6c61635f6e7275746572,code:=Y 19,cH:=.f3} (by kernel_rfl!)
def Ko:OW:=b8 { sort:=.id,txt:=J 0x306624} (by kernel_rfl!)
def XT:OW:=b8 { txt:=J 0x7465672e656c626174,code:=Y 37,cH:=.f5} (by kernel_rfl!)
def XU:OW:=b8 { txt:=J 0x6c6c61635f6e7275746572,code:=Y 18,cH:=.f2} (by kernel_rfl!)
def XW:OW:=b8 { txt:=J 0x7465732e656c626174,code:=Y 38,cH:=.f5} (by kernel_rfl!)
def Kq:OW:=b8 { sort:=.id,txt:=J 0x306524} (by kernel_rfl!)
def Kr:OW:=b8 { sort:=.id,txt:=J 0x317524} (by kernel_rfl!)
def XX:OW:=b8 { txt:=J 0x636e75662e666572,code:=Y 210,cH:=.f2} (by kernel_rfl!)
def Ks:OW:=b8 { sort:=.id,txt:=J 0x306724} (by kernel_rfl!)
def XY:OW:=b8 { txt:=J 0x776f72672e656c626174,code:=Y 64527,cH:=.f5} (by kernel_rfl!)
def Kt:OW:=b8 { sort:=.id,txt:=J 0x317424} (by kernel_rfl!)
def XZ:OW:=b8 { sort:=.int,txt:=J 0x32,val:=2} (by kernel_rfl!)
def X1:OW:=b8 { txt:=J 0x6c6c69662e656c626174,code:=Y 64529,cH:=.f5} (by kernel_rfl!)
def Ku:OW:=b8 { sort:=.id,txt:=J 0x306424} (by kernel_rfl!)
def X2:OW:=b8 { txt:=J 0x74696e692e79726f6d656d,code:=Y 64520,cH:=.f6} (by kernel_rfl!)
def Kv:OW:=b8 { sort:=.id,txt:=J 0x327424} (by kernel_rfl!)
def X3:OW:=b8 { sort:=.int,txt:=J 0x31,val:=1} (by kernel_rfl!)
def Kw:OW:=b8 { sort:=.id,txt:=J 0x316624} (by kernel_rfl!)
def Kx:OW:=b8 { sort:=.id,txt:=J 0x316724} (by kernel_rfl!)
def X4:OW:=b8 { sort:=.int,txt:=J 0x33,val:=3} (by kernel_rfl!)
def Ky:OW:=b8 { sort:=.id,txt:=J 0x316424} (by kernel_rfl!)
def Kz:OW:=b8 { sort:=.id,txt:=J 0x316524} (by kernel_rfl!)
def X5:OW:=b8 { sort:=.int,txt:=J 0x34,val:=4} (by kernel_rfl!)
def X6:OW:=b8 { txt:=J 0x666572636e7566,kd:=Y (-16),gn:=W} (by kernel_rfl!)
def DF:OW:=b8 { txt:=J 0x6665726e7265747865,kd:=Y (-17),gn:=W} (by kernel_rfl!)
def X7:OW:=b8 { sort:=.int,txt:=J 0x35,val:=5} (by kernel_rfl!)
def X8:OW:=b8 { sort:=.int,txt:=J 0x36,val:=6} (by kernel_rfl!)
def X9:OW:=b8 { sort:=.int,txt:=J 0x37,val:=7} (by kernel_rfl!)
end
local macro_rules | `(tactic|walk_at "o")=>`(tactic|first|with_reducible assumption|(with_reducible first|apply HI|apply Qd|apply Ct|apply AM|apply AN|apply vB|apply KW|apply KU)|((with_reducible first|apply qu|apply nv|apply KY|apply o7|apply zI|apply Ry|apply Iw|apply o_eqI|apply o_neI|apply Rw|apply o_eqR|apply wM|apply wK|apply sZ|apply Iy|apply o_nei)<;>first|with_reducible assumption|exact rfl|(with_reducible (first|apply RU|apply IS|apply ps_ge|apply ps_ge0)<;>assumption))|exact rfl|((first|apply Ct|apply nv|apply wK|apply o7)<;>with_reducible assumption))
section
open PySem PySem.W
inductive TT where|w (o:OW)|l (xs:List TT)
mutual
noncomputable def qN:TT->O
 | .w o=>.str o.1.txt
 | .l xs=>.lst (bO xs)
noncomputable def bO:List TT->List O
 | []=>[]
 |x::r=>qN x::bO r
end
mutual
noncomputable def nC:Nat->TT->Itm×Nat
 |n,.w o=>(.tok o 1 (n+1),n+1)
 |n,.l xs=>(.br (aN (n+1) xs).1 1 (n+1),(aN (n+1) xs).2)
noncomputable def aN:Nat->List TT->List Itm×Nat
 |n,[]=>([],n)
 |n,x::r=>((nC n x).1::(aN (nC n x).2 r).1,(aN (nC n x).2 r).2)
end
noncomputable def fG(f:List TT->Bool):TT->Bool | .w _=>W | .l ys=>f ys
def dK:Nat->List TT->Bool
 |0,_=>LB
 |n+1,xs=>bf xs 500&&bt (fG (dK n)) xs
section
variable{K:bj}{X:KX}{H G:List MO}{c k0:Nat}
theorem N7:uo (.ref H.length) (H++[.inst C fs])=Y (.obj C fs,H++[.dead]):=by
 show((H++[MO.inst C fs])[H.length]?).bind _=_;rw[eG];show Y (O.obj C fs,(H++[MO.inst C fs]).set H.length .dead)=_;rw[qG]
theorem T6{w:OW}{q t v:O}{r1 a:Nat}(e:O.obj 202 [(gz,q),(cS,t),(qc,v),(dq,.int r1),(da,.int a)]=a8 (.tok w r1 a))(h:K (a8 (.tok w r1 a)) (H++[.dead])):pQ [q,t,v,.int r1,.int a] H K X:=by
 unfold pQ;rw[fU];show BC _ _ _ _;unfold BC;refine EV (ib (U rfl) (U rfl) (jl rfl) (ib (U rfl) (U rfl) (jl rfl) (ib (U rfl) (U rfl) (jl rfl) (ib (U rfl) (U rfl) (jl rfl) (y8 (U rfl) (U rfl) (jl rfl) ?_)))));rw[←e]at h;exact bI rfl (oI N7 h)
theorem Zw(h:K (a8 (.br is r1 c1)) (H++[.dead])):vF [.lst (aL is),.int r1,.int c1] H K X:=by
 unfold vF;rw[fU];show Bu _ _ _ _;unfold Bu;refine p5 (ib (U rfl) (U rfl) (jl rfl) (ib (U rfl) (U rfl) (jl rfl) (y8 (U rfl) (U rfl) (jl rfl) ?_)));exact bI rfl (oI N7 h)
theorem ae2(h:H[c]?=Y (.lst [.int n])):putItem (.ref c) (.int 0) v H=Y (H.set c (.lst [v])):=by
 unfold putItem;have e:dQ mD H (.ref c)=LA:=by show(H[c]?).bind _=_;rw[h];rfl
 rw[e,n8 h];rfl
theorem Qk(h:H[c]?=Y (.lst [.int n])):aF ay (.ref c) (.int 0) H=Y (.int n):=by
 unfold aF;rw[kX h];rfl
def zh(F:Fn):SM :=(ah (Al ax (aj 0) (aj 1)) (ah (aZ 4 (ao (aF ay) ax (aj 0))) (a9 aqK (bp (aH dG [] aD [aB vF [aB F [ba,ax],aj 1,bw]])) ap5)))
theorem age{o i m:EM O}{e:En}{x y:O}{H H':List MO}{n k:Int}{C:SM}{K:KF}{X:KE}(f:Ev o e H x)(hi:Ev i e H y)(a:xT x y H=Y n)(hm:Ev m e H (.int k))(j:putItem x y (.int (n+k)) H=Y H')(h:C e H' K X):ah (Al o i m) C e H K X :=f _ _ (hi _ _ (oI a (hm _ _ (oI (x:=((aI (.int k)).bind λb=>putItem x y (.int (n+b)) H)) j h))))
theorem Y5(h:H[c]?=Y (.lst [.int n])):xT (.ref c) (.int 0) H=Y n:=by
 unfold xT;rw[n8 h];rfl
theorem N3{t:Tg}{b:SM}{K:KF}{X:KE}{e:En}(h:K .next e H):forL t b K X [] e H:=h
theorem N6(h:H[k0]?=Y (.lst l)):uo (.ref k0) H=Y (.lst l,H.set k0 .dead):=by
 show(H[k0]?).bind _=_;rw[h];rfl
theorem Qg{KF:KF}(S:∀(xs:List TT) (n:Nat) (H:List MO) (K:bj) (X:KX),dK fu xs=W->H[c]?=Y (.lst [.int n])->(∀G,Up [c] H G->G[c]?=Y (.lst [.int ((aN n xs).2:Nat)])->K (.lst (aL (aN n xs).1)) G)->FW [.lst (bO xs),.ref c] H K X)(hn:H[k0]?=LA)(N:c≠k0)(y:TT){n:Nat}{fd:List Itm}{z:Option O}{G:List MO}(hl:fd.length<=500)(ha:fG (dK fu) y=W)(u:Up [c] H G)(C:G[c]?=Y (.lst [.int (n:Nat)]))(I:G[k0]?=Y (.lst (aL fd)))(h:∀x3 z G,Up [c] H G->G[c]?=Y (.lst [.int ((nC n y).2:Nat)])->G[k0]?=Y (.lst (aL (fd++[(nC n y).1])))->KF .next [j,Y (.ref c),Y (.ref k0),x3,z] G):zh FW [j,Y (.ref c),Y (.ref k0),Y (qN y),z] G KF XE:=by
 refine age (U rfl) aq (Y5 C) aq (ae2 C) ?_;have iz:(G.set c (.lst [.int (n+1:Nat)]))[c]?=Y (.lst [.int (n+1:Nat)]):=dW C _;have a:=sn (m:=.lst [.int (n+1:Nat)]) I N;have T:Up [c] H (G.set c (.lst [.int (n+1:Nat)])):=u.set (by show cond (LK c c) W LB=W;rw[ajT];rfl);show ah _ _ _ (G.set c (.lst [.int (n+1:Nat)])) _ _;generalize (G.set c (.lst [.int (n+1:Nat)]))=e at iz a T ⊢;refine eS (v:=.int (n+1:Nat)) (aV (U rfl) aq (Qk iz)) ?_;have B:∀{F:List MO}{t:Itm}{z:Option O},Up [c] H F->F[c]?=Y (.lst [.int ((nC n y).2:Nat)])->F[k0]?=Y (.lst (aL fd))->a8 t=a8 (nC n y).1->t=(nC n y).1 ->
   oP (mV .app (.ref k0) [a8 t] F) λp=>(λ(_:O) (H:List MO)=>KF .next [j,Y (.ref c),Y (.ref k0),Y (qN y),z] H) p.1 p.2:=λ{F t z} u C I _ et=>by
  subst et;refine oI (oa I (cC (by rw[kP];lia))) ?_;exact h _ _ _ (u.st hn _) (sn C (aaU N)) (by rw[dW I,Ey];rfl)
 cases y with
 |l M =>
  have Q:dK fu M=W:=ha;refine oH (rh (iw (Bf (U rfl) aq rfl) rfl) rfl) (show bp _ _ _ _ _ from ir (U rfl) (ie a) l9 ?_);show aB vF _ _ _ _ _;show aB FW _ _ _ _ _;refine d7 (xs:=[.lst (bO M),.ref c]) (ai (U rfl) (ai (U rfl) aw)) (S M (n+1) e _ _ Q iz λF Z rD=>?_);refine kK (xs:=[.int (1:Nat),.int (n+1:Nat)]) (ai aq (ai (U rfl) aw)) (Zw ?_);exact B (t:=.br (aN (n+1) M).1 1 (n+1)) ((T.t Z).nn _) ((Le.n F _).g rD) ((Le.n F _).g (Z _ _ a (mB (aaU N)))) rfl rfl
 |w o =>
  refine j7 (rh (iw (Bf (U rfl) aq rfl) rfl) rfl) ?_;refine aM (o.2.dig e) λch h1 D=>?_;have L:Ev (ao (aF ay) ba (aj 0)) [j,Y (.ref c),Y (.ref k0),Y (.str o.1.txt),Y (.int (n+1:Nat))] e ch:=aV (U rfl) aq h1;have A:oP (mV .app (.ref k0) [a8 (.tok o 1 (n+1))] (e++[.dead])) λp=>(λ(_:O) (H:List MO)=>KF .next [j,Y (.ref c),Y (.ref k0),Y (.str o.1.txt),Y (.int (n+1:Nat))] H) p.1 p.2:=B (t:=.tok o 1 (n+1)) (T.nn _) ((Le.n e _).g iz) ((Le.n e _).g a) rfl rfl;cases f:eI o.1.sort with
  |true =>
   rw[f]at D;refine oH (bq L aq D) (show bp _ _ _ _ _ from ir (U rfl) (ie a) l9 ?_);show aB pQ _ _ _ _ _;have hv:Ev (ToInt nz ba) [j,Y (.ref c),Y (.ref k0),Y (.str o.1.txt),Y (.int (n+1:Nat))] e (.int o.1.val):=λK X k=>U (i:=3) (v:=.str o.1.txt) rfl (λy G=>oP ((aS y).bind λs=>look s nz) λi=>K (.int i) G) X (oI (x:=(aS (.str o.1.txt)).bind λs=>look s nz) (o.2.int f) k);refine d7 (ai aq (ai (U rfl) (ai hv (ai aq (ai (U rfl) aw))))) (T6 (r1:=1) (w:=o) ?_ A);show _=Af o.1 _ _;unfold Af;rw[Us f,agF f];rfl
  |false =>
   rw[f]at D;have b:=o.2.dol f h1;have sE:Ev aq4 [j,Y (.ref c),Y (.ref k0),Y (.str o.1.txt),Y (.int (n+1:Nat))] e (.str o.1.sort.s):=by
    cases E:eD o.1.sort with
    |true =>
     rw[E]at b;rw[agE E];exact rg (bq L aq b) aq
    |false =>
     rw[E]at b;rw[agI (agG f E)];exact pW (bq L aq b) aq
   refine j7 (bq L aq D) (show bp _ _ _ _ _ from ir (U rfl) (ie a) l9 ?_);show aB pQ _ _ _ _ _;refine d7 (ai sE (ai (U rfl) (ai (U rfl) (ai aq (ai (U rfl) aw))))) (T6 (r1:=1) (w:=o) ?_ A);show _=Af o.1 _ _;unfold Af;rw[agH _ _ f];rfl
theorem ac6(j:∀(xs:List TT) (n:Nat) (H:List MO) (K:bj) (X:KX),dK fu xs=W->H[c]?=Y (.lst [.int n])->(∀G,Up [c] H G->G[c]?=Y (.lst [.int ((aN n xs).2:Nat)])->K (.lst (aL (aN n xs).1)) G)->FW [.lst (bO xs),.ref c] H K X)(A:H[k0]?=LA)(x:c≠k0)(ys:List TT):∀(n:Nat) (fd:List Itm) (x3 b:Option O) (G:List MO),fd.length+ys.length<=500->bt (fG (dK fu)) ys=W->Up [c] H G->G[c]?=Y (.lst [.int (n:Nat)])->G[k0]?=Y (.lst (aL fd))-> (∀x3 b G,Up [c] H G->G[c]?=Y (.lst [.int ((aN n ys).2:Nat)])->G[k0]?=Y (.lst (aL (fd++(aN n ys).1)))->KQ .next [m,Y (.ref c),Y (.ref k0),x3,b] G)->forL (.nm 3) (zh FW) KQ XE (bO ys) [m,Y (.ref c),Y (.ref k0),x3,b] G:=by
 induction ys with
 |nil=>exactλn fd x3 b G i _ u e f h=>N3 (h _ _ _ u e (by rw[f];exact congrArg (λl=>Y (MO.lst (aL l))) (VJ fd).symm))
 |cons y ys B =>
  intro n fd x3 b G i z u e f h;rw[show bO (y::ys)=qN y::bO ys from rfl];refine yj (a:=fG (dK fu) y) z λp w=>N2 (e':=[m,Y (.ref c),Y (.ref k0),Y (qN y),b]) rfl (Qg j A x y (fd:=fd) (LI (ajk _ _) i) p u e f λx3 b G u e f=>?_);refine B _ (fd++[(nC n y).1]) x3 b G (by rw[LN];exact LI (ajS (ajH _ _)) i) w u e f λx3 b G u e f=>?_;exact h x3 b G u e (by rw[f,aa0];rfl)
theorem Jm:∀(ys:List TT) (i:Nat),(bO ys)[i]?=(ys[i]?).map qN
 | [],i=>rfl
 |y::ys,0=>rfl
 |y::ys,i+1=>Jm ys i
theorem ac8(A:∀(xs:List TT) (n:Nat) (H:List MO) (K:bj) (X:KX),dK fu xs=W->H[c]?=Y (.lst [.int n])->(∀G,Up [c] H G->G[c]?=Y (.lst [.int ((aN n xs).2:Nat)])->K (.lst (aL (aN n xs).1)) G)->FW [.lst (bO xs),.ref c] H K X)(N:H[k0]?=LA)(L:c≠k0){j:Nat}{b:List TT}(B:H[j]?=Y (.lst (bO b)))(C:bJ j [c]=LB)(ys:List TT):∀(m i n:Nat) (fd:List Itm) (x3 e:Option O) (G:List MO),b.drop i=ys->ys.length < m->fd.length+ys.length<=500->bt (fG (dK fu)) ys=W->Up [c] H G->G[c]?=Y (.lst [.int (n:Nat)])->G[k0]?=Y (.lst (aL fd))-> (∀x3 e G,Up [c] H G->G[c]?=Y (.lst [.int ((aN n ys).2:Nat)])->G[k0]?=Y (.lst (aL (fd++(aN n ys).1)))->KQ .next [D,Y (.ref c),Y (.ref k0),x3,e] G)->forR (.nm 3) (zh FW) KQ XE j LB m i [D,Y (.ref c),Y (.ref k0),x3,e] G:=by
 induction ys with
 |nil =>
  intro m i n fd x3 e G w lt z _ u f p h;cases m with
  |zero=>exact absurd lt (akf _)
  |succ m =>
   have hi:(bO b)[i]?=LA:=by rw[Jm,VO (ane.mp w)];rfl
   refine oI (a:=bO b) (x:=(G[j]?).bind mL) (by rw[u _ _ B C];rfl) ?_;rw[hi];exact h _ _ _ u f (by rw[p];exact congrArg (λl=>Y (MO.lst (aL l))) (VJ fd).symm)
 |cons y ys S =>
  intro m i n fd x3 e G w lt z M u f p h;cases m with
  |zero=>exact absurd lt (akf _)
  |succ m =>
   have Q:b[i]?=Y y:=by
    have:=List.getElem?_drop (xs:=b) (i:=i) (j:=0);rw[w]at this;exact this.symm
   have hi:(bO b)[i]?=Y (qN y):=by rw[Jm,Q];rfl
   refine oI (a:=bO b) (x:=(G[j]?).bind mL) (by rw[u _ _ B C];rfl) ?_;rw[hi];show zh FW [D,Y (.ref c),Y (.ref k0),Y (qN y),e] G (oU (forR (.nm 3) (zh FW) KQ XE j LB m (i+1)) KQ) XE;refine yj (a:=fG (dK fu) y) M λE I=>Qg A N L y (fd:=fd) (LI (ajk _ _) z) E u f p λx3 e G u f p=>?_;refine S m (i+1) _ (fd++[(nC n y).1]) x3 e G (by rw[←List.drop_drop,w];rfl) (akp lt) (by rw[LN];exact LI (ajS (ajH _ _)) z) I u f p λx3 e G u f p=>?_;exact h x3 e G u f (by rw[p,aa0];rfl)
theorem Qj(fu:Nat):∀(xs:List TT) (n:Nat) (H:List MO) (K:bj) (X:KX),dK fu xs=W->H[c]?=Y (.lst [.int n])-> (∀G,Up [c] H G->G[c]?=Y (.lst [.int ((aN n xs).2:Nat)])->K (.lst (aL (aN n xs).1)) G)->l5 fu [.lst (bO xs),.ref c] H K X:=by
 induction fu with
 |zero=>exactλxs n H K X h _ _=>bL h
 |succ fu y =>
  intro xs n H K X x e h;show bz 2 [] 3 (vC fu (l5 fu)) [.lst (bO xs),.ref c] H (λv H=>oP (uo v H) λp=>K p.1 p.2) X;show vC fu (l5 fu) [Y (.lst (bO xs)),Y (.ref c),LA,LA,LA] H (eA λv H=>oP (uo v H) λp=>K p.1 p.2) (λC fs _ H=>X C fs H);have b:(bf xs 500&&bt (fG (dK fu)) xs)=W:=x;rw[LM]at b;refine fK ?_;show ah (kz _ _ _ _) _ [Y (.lst (bO xs)),Y (.ref c),Y (.ref H.length),LA,LA] (H++[.lst []]) _ _;have j:=jE H;have l:c≠H.length:=λq=>by rw[q,j]at e;exact bR e
  have i:=eG H (.lst []);have f:=(Le.n H (.lst [])).g e;have m:Up [c] H (H++[.lst []]):=Up.r.nn _;generalize H.length=k0 at j l i ⊢;generalize H++[MO.lst []]=w at i f m ⊢;show kz _ _ _ _ _ _ _ _;refine cast ET.symm (U rfl _ _ (Ex (a:=bO xs) rfl ?_));exact ac6 y j l xs n [] LA LA w (by have:=eg b.1;simp only[aaT];lia) b.2 m f i λx3 z G u e i=>Df rfl rfl (cW (v:=.ref k0) (U rfl) (oI (N6 i) (h (G.set k0 .dead) (u.st j _) (sn e (aaU l)))))
theorem ac7{fu j:Nat}{xs:List TT}{n:Nat}(z:dK (fu+1) xs=W)(i:H[j]?=Y (.lst (bO xs)))(b:H[c]?=Y (.lst [.int n]))(h:∀G,Up [c] H G->G[c]?=Y (.lst [.int ((aN n xs).2:Nat)])->K (.lst (aL (aN n xs).1)) G):l5 (fu+1) [.ref j,.ref c] H K X:=by
 show bz 2 [] 3 (vC fu (l5 fu)) [.ref j,.ref c] H (λv H=>oP (uo v H) λp=>K p.1 p.2) X;show vC fu (l5 fu) [Y (.ref j),Y (.ref c),LA,LA,LA] H (eA λv H=>oP (uo v H) λp=>K p.1 p.2) (λC fs _ H=>X C fs H);have a:(bf xs 500&&bt (fG (dK fu)) xs)=W:=z;rw[LM]at a;refine fK ?_;show ah (kz _ _ _ _) _ [Y (.ref j),Y (.ref c),Y (.ref H.length),LA,LA] (H++[.lst []]) _ _;have l:=jE H;have m:c≠H.length:=λq=>by rw[q,l]at b;exact bR b
 have B:bJ j [c]=LB:=by
  show cond (LK j c) W LB=LB;cases q:LK j c with
  |false=>rfl
  |true =>
   rw[VH q,b]at i;cases xs with
   |nil=>cases i
   |cons y ys=>cases y<;>cases i
 have f:=eG H (.lst []);have e:=(Le.n H (.lst [])).g b;have w:Up [c] H (H++[.lst []]):=Up.r.nn _;generalize H.length=k0 at l m f ⊢;generalize H++[MO.lst []]=x at f e w ⊢;show kz _ _ _ _ _ _ _ _;refine cast ET.symm (U rfl _ _ ?_);have A:=eg a.1;exact ac8 (λxs n H K X=>Qj fu xs n H K X) l m i B xs jD 0 n [] LA LA x rfl (aeI A (by decide)) (by simp only[aaT];lia) a.2 w e f λx3 D G u b f=>Df rfl rfl (cW (v:=.ref k0) (U rfl) (oI (N6 f) (h (G.set k0 .dead) (u.st l _) (sn b (aaU m)))))
variable{e:En}{k:Nat}{p:Nat}
theorem N8{m:Nat}{b:SM}(h:b (eV m) H (eA K) λC fs _ H=>X C fs H):sl (bz 0 [] m b) [] H K X:=by rw[fU];exact h
noncomputable def b9(is:List Int)(n:Nat):Int:=(is[n]?).getD 0+41 * n
noncomputable def gE(is:List Int)(n:Nat):MO:=.lst [.lst (is.map .int),.int n]
theorem CG{is:List Int}{n:Nat}(a:H[p]?=Y (gE is n))(j:is.length<=63)(h:K (.int (b9 is n)) (H.set p (gE is (n+1)))):oo [.ref p] H K X:=by
 unfold oo;have l:aF ay (.ref p) (.int 1) H=Y (.int n):=HL (n:=1) a rfl (by decide);refine fun1 (eS (v:=.int n) (aV (U rfl) aq l) ?_);have b:(H.set p (gE is (n+1)))[p]?=Y (gE is (n+1)):=dW a _;refine I6 (v:=.int (n+1:Nat)) (H':=H.set p (gE is (n+1))) (aV (U rfl) aq rfl) (U rfl) aq (by
  unfold putItem;rw[show dQ mD H (.ref p)=LA by show(H[p]?).bind _=_;rw[a];rfl,n8 a];rfl) ?_
 have fl:fits (is.map O.int)=W:=cC (by rw[QC];exact LI j (by decide));have f:∀{e:En},e[0]?=Y (Y (.ref p))->Ev (ao (aF ay) ak (aj 0)) e (H.set p (gE is (n+1))) (.lst (is.map .int)):=λhe=>aV (U he) aq (HL (n:=0) b rfl (by decide));have i:∀{e:En},e[0]?=Y (Y (.ref p))->Ev (bW (ao (aF ay) ak (aj 0))) e (H.set p (gE is (n+1))) (.int is.length):=λhe=>dy (f he) (by
  show alt (gd (fits (is.map O.int)) (Y (O.int (is.map O.int).length))) _=_;rw[fl,QC];rfl)
 by_cases lt:n < is.length
 .refine ct (bq (U rfl) (i rfl) (o7 (t:=W) (VW (ahH.mpr lt)))) (ko (v:=.int (b9 is n)) (aV (aV (f rfl) (U rfl) (uW (v:=.int is[n]) (by rw[abI,WB lt];rfl) (LR lt (LI j (by decide))) _)) (aV aq (U rfl) rfl) ?_) h);unfold b9;rw[WB lt];rfl
 .refine cu (bq (U rfl) (i rfl) (o7 (t:=LB) (aer λq=>lt (ahH.mp q)))) (cW (v:=.int (b9 is n)) (aV aq (U rfl) ?_) h);unfold b9;rw[VO (ale lt)];exact congrArg Y (congrArg O.int (amn _).symm)
def K8:List (Kd×List TT):=[(([-1],[]),[.l [.w W4,.w W6]]),(([],[-2]),[.l [.w jx,.w tT]]),(([],[]),[]),(([-1,-1],[-1]),[.l [.w W4,.w W6],.l [.w W4,.w W6],.l [.w jx,.w W6]]),(([-2,-16],[-17,-1]),[.l [.w W4,.w tT,.w X6],.l [.w jx,.w DF],.l [.w jx,.w W6]]),(([],[-1,-2]),[.l [.w jx,.w W6,.w tT]]),(([],[-1]),[.l [.w W4],.l [.w jx,.w W6]]),(([-17],[-17]),[.l [.w W4],.l [.w W4,.w DF],.l [.w jx,.w DF]])]
def oJ(p:Kd×List TT):O:=.tup [aP p.1,.lst (bO p.2)]
theorem HU(h:K (.lst (K8.map oJ)) H):om [] H K X:=by
 unfold om;refine N8 ?_;exact(by kernel_rfl! : K (.lst (K8.map oJ)) H=D0 (eV 0) H (eA K) λC fs _ H=>X C fs H)▸h
end
theorem gM{a:Type}{N:Nat}{f g:Nat->a}(h:(agL N).map f=(agL N).map g):∀i,i < N->f i=g i:=λi hi=>by
 have:=congrArg (λl=>l[i]?) h
 simpa[hi]using this
theorem DO{b:Type}{N M:Nat}{f g:Nat->Nat->b}(h:((agL N).map λl=>(agL M).map (f l))=(agL N).map λl=>(agL M).map (g l)):∀l,l < N->∀n,n < M->f l n=g l n:=λl a=>gM (gM h l a)
theorem wA{P:Nat->Prop}(a:P 0)(b:P 1):∀k,k < 2->P k:=jk (jk wz b) a
theorem CA{P:Nat->Prop}(a:P 0)(b:P 1)(c:P 2):∀k,k < 3->P k:=jk (wA b c) a
section
variable{K:bj}{X:KX}{H G:List MO}{e:En}{k p:Nat}{x y:Int}
theorem abu(a:Int)(m:Nat)(hm:0 < m):∃k:Nat,k < m/\a.fmod m=(k:Int):=by
 have p:(0:Int)< m:=ahH.mpr hm;rw[Int.fmod_eq_emod_of_nonneg a (amt p)];have e:=ano (Int.emod_nonneg a (Int.ne_of_gt p));exact⟨(a % m).toNat,ahH.mp (e▸Int.emod_lt_of_pos a p),e.symm⟩
theorem ek{a:EM O}{v:O}(h:(λK X=>a e H K X)=λK _=>K v H):Ev a e H v:=λK X k=>cast (congrFun (congrFun h K) X).symm k
noncomputable def md(x:Int)(m:Nat):Nat:=(x.fmod m).toNat
theorem fC{m:Nat}(hm:0 < m)(x:Int):md x m < m/\x.fmod m=(md x m:Int):=by
 refine aM (abu x m hm) λk h e=>?_;have z:md x m=k:=by unfold md;rw[e];rfl
 rw[z];exact⟨h,e⟩
theorem gC{m:Nat}(hm:0 < m):eX (.int x) (.int (m:Nat)) H=Y (.int (md x m)):=by
 show gd (VE 0 (m:Int).natAbs) _=_;rw[show VE 0 (m:Int).natAbs=W from alh hm];exact congrArg Y (congrArg O.int (fC hm x).2)
theorem wJ(a b:Nat):aX (.int a) (.int b) H=Y (LK a b):=congrArg Y (NI a b)
theorem wN(a b:Nat):ef (.int a) (.int b) H=Y (VE a b):=congrArg Y (by
 cases q:VE a b with
 |true=>exact VW (ahH.mpr (ajZ (LQ q)))
 |false=>exact aer λh=>by rw[show VE a b=W from alh (ahH.mp h)]at q;exact qK q)
theorem dS{as:List (EM O)}{xs:List O}(a:jI as e H xs)(h:fits xs=W):Ev (az as) e H (.lst xs):=λK X k=>a _ _ (bI h k)
theorem aa7:Ev fq e H W:=λK X k=>k
theorem EF{p q:EM Bool}{a b:Bool}(h1:Ev p e H a)(f:Ev q e H b):Ev (b7 p (b7 q fq)) e H (a&&b):=by
 cases a
 .exact jg h1
 .cases b
  .exact gO h1 (jg f)
  .exact gO h1 (gO f aa7)
theorem Be{p:EM Bool}{a b:EM O}{t:Bool}{v w:O}(h:Ev p e H t)(h1:t=W->Ev a e H v)(f:t=LB->Ev b e H w):Ev (dP p a b) e H (cond t v w):=by
 cases t
 .exact pW h (f rfl)
 .exact rg h (h1 rfl)
def qx(n:Nat):OW:=nthN [kG,X3,XZ,X4,X5,X7,X8,X9] n kG
where nthN:List OW->Nat->OW->OW
 | [],_,d=>d
 |x::_,0,_=>x
 |_::l,n+1,d=>nthN l n d
def za(l n:Nat):OW:=match l with
 |0=>cond (LK n 0) Ko Kw
 |1=>cond (LK n 0) Kn Kr
 |2=>cond (LK n 0) Ks Kx
 |3=>cond (LK n 0) Kq Kz
 |_=>cond (LK n 0) Ku Ky
def zt(l:Nat):Str:=match l with|0=>xc|1=>tl|2=>zT|3=>xb|_=>tf
def zC(x:Int):Bool:=LK (md (x.fdiv 3) 2) 0&&VE (md x 3) 2
def cz(l:Nat)(x:Int):OW:=cond (zC x) (za l (md x 3)) (qx (md x 3))
theorem acx{l:Nat}(b:l < 5):∀n:Nat,n < 2->Ev aqT [Y (.int x),Y (.str (zt l)),Y (.int (n:Nat))] H (.str (za l n).1.txt) :=by intro n a;apply ek;revert l n;apply DO;kernel_rfl!
theorem ael:(agL 8).all (λn=>match toStr n with|some s=>s == (qx n).1.txt|none=>LB)=W:=by decide +kernel
theorem Iu{n i:Nat}(a:n < 8)(he:e[i]?=Y (Y (.int n))):Ev (je (Loc i)) e H (.str (qx n).1.txt):=λK X k=>by
 have:=UA.mp ael n (aeM.mpr a);cases q:toStr n with
 |none=>rw[q]at this;exact bL this
 |some s =>
  rw[q]at this;rw[←eq_of_beq this]at k;exact U (v:=.int n) he _ _ (oI (x:=(aI (.int n)).bind toStr) q k)
theorem ad0{l:Nat}(a:l < 5)(h:K (.tup [.str (cz l x).1.txt,.int (md x 3)]) H):l6 [.int x,.str (zt l)] H K X:=by
 unfold l6;refine fun2 (eS (v:=.int (md x 3)) (aV (U rfl) aq (gC (m:=3) (by decide))) (cW (v:=.tup [.str (cz l x).1.txt,.int (md x 3)]) (cA (ai (x:=.str (cz l x).1.txt) ?_ (ai (U rfl) aw)) rfl) h));have f:=(fC (m:=3) (by decide) x).1;refine vM (Be (t:=zC x) (v:=.str (za l (md x 3)).1.txt) (w:=.str (qx (md x 3)).1.txt) (EF (bq (aV (aV (U rfl) aq rfl) aq (gC (m:=2) (by decide))) aq (wJ _ 0)) (bq (U rfl) aq (wN _ 2))) (λq=>?_) λ_=>Iu (aj9 f (by decide)) rfl) ?_
 .exact acx a _ (ajZ (LQ (aY q λ_ b=>b)))
 .unfold cz;cases zC x<;>rfl
variable{ks:List Kd}{q:Kd}
noncomputable def gD(q:Kd):ajY:=.tuple [.tuple (q.1.map .int),.tuple (q.2.map .int)]
theorem NJ(a b:Kd):VV (gD a) (gD b)=cV a b:=by
 show(ahT (a.1.map .int) (b.1.map .int)&&(ahT (a.2.map .int) (b.2.map .int)&&W))=_;rw[t9,t9];unfold cV;cases jr a.1 b.1<;>cases jr a.2 b.2<;>rfl
theorem RK(ks:List Kd):eQ (toPy H cM) (ks.map aP)=Y (ks.map gD):=by
 induction ks with
 |nil=>rfl
 |cons a r b =>
  show((toPy H cM (aP a)).bind λd=>(eQ (toPy H cM) (r.map aP)).bind λds=>Y (d::ds))=_;rw[zR,b];rfl
theorem RH(ks:List Kd):bt (df cM) (ks.map gD)=W:=by
 induction ks with
 |nil=>rfl
 |cons a r b =>
  show cond (df cM (gD a)) (bt (df cM) (r.map gD)) LB=W;rw[show df cM (gD a)=W from zK a,b];rfl
theorem abA(q:Kd)(ks:List Kd):(ks.map gD).any (λy=>VV y (gD q))=nB (fg q ks):=by
 induction ks with
 |nil=>rfl
 |cons a r b =>
  show(VV (gD a) (gD q)||(r.map gD).any λy=>VV y (gD q))=_;rw[NJ,b];show _=nB (cond (cV a q) (Y 0) ((fg q r).map λn=>n+1));cases cV a q
  .cases fg q r<;>rfl
  .rfl
theorem abC(q:Kd)(ks:List Kd):ou (gD q) (ks.map gD)=fg q ks:=by
 induction ks with
 |nil=>rfl
 |cons a r b =>
  show(if VV (gD a) (gD q)=W then Y 0 else(ou (gD q) (r.map gD)).map (· + 1))=cond (cV a q) (Y 0) ((fg q r).map λn=>n+1);rw[NJ,b];cases cV a q<;>rfl
theorem Q9(f:H[k]?=Y (.lst (ks.map aP))):s9 (aP q) (.ref k) H=Y (!nB (fg q ks)):=by
 have e:uQ (aP q) (ks.map aP) H=Y (nB (fg q ks)):=by
  unfold uQ;rw[zR,ajy,RK,ajy,show df cM (ajU [.tuple (q.1.map .int),.tuple (q.2.map .int)])=W from zK q,RH];exact congrArg Y (abA q ks)
 unfold s9 wU;rw[show((aS (.ref k)).bind λb=>(aS (aP q)).bind λa=>Y (!(akb b a 0 b.length 1).isEmpty))=LA from rfl,show((aT (.ref k)).bind λys=>uQ (aP q) ys H)=LA from rfl,kX f];show(alt (uQ (aP q) (ks.map aP) H) _).bind _=_;rw[e];rfl
theorem acy{n:Nat}(a:H[k]?=Y (.lst (ks.map aP)))(f:bf ks 1000=W)(b:fg q ks=Y n):mV .idx (.ref k) [aP q] H=Y (.int n,H):=by
 show(dQ mL H (.ref k)).bind _=_;rw[n8 a,ajy];have f1:∀{h:Type}(g:Kd->h),fits (ks.map g)=W:=λg=>cC (by rw[QC];exact LI (eg f) (by decide));rw[f1 aP];show CX H (zb (aP q) (ks.map aP) H)=_;unfold zb;rw[zR,ajy,RK,ajy,show df cM (ajU [.tuple (q.1.map .int),.tuple (q.2.map .int)])=W from zK q,RH,f1 gD];show CX H ((ou (gD q) (ks.map gD)).bind λj=>Y (O.int j))=_;rw[abC,b];rfl
theorem adQ(b:H[k]?=Y (.lst l)):lJ n tab (.ref k) H=LA:=by
 unfold lJ;rw[show zN (.ref k) H=LA by show(((H[k]?).bind λm=>(mI m).bind λa=>Y (k,a)).bind λp=>Y p.2)=_;rw[b];rfl];rfl
theorem set_same{m:MO}(h:H[k]?=Y m):H.set k m=H:=List.ext_getElem? λi=>by
 by_cases q:k=i
 .rw[←q,dW h,h]
 .rw[WC q]
theorem NZ(h:fg q ks=LA)(r:cV q q=W):fg q (ks++[q])=Y ks.length:=by
 induction ks with
 |nil=>show cond (cV q q) (Y 0) LA=Y 0;rw[r];rfl
 |cons a t b =>
  have h:cond (cV a q) (Y 0) ((fg q t).map λn=>n+1)=LA:=h;show cond (cV a q) (Y 0) ((fg q (t++[q])).map λn=>n+1)=Y (t.length+1);cases e:cV a q with
  |true=>rw[e]at h;exact fZ h
  |false =>
   rw[e]at h;cases f:fg q t with
   |some n=>rw[f]at h;exact fZ h
   |none=>rw[b f];rfl
theorem aem(a:H[k]?=Y (.lst (ks.map aP)))(j:ks.length<=900)(hq:cV q q=W)(h:K (.int (dU ks q).1) (H.set k (.lst ((dU ks q).2.map aP)))):vU [.ref k,aP q] H K X:=by
 unfold vU;have b:∀{n:Nat}{l:List Kd}{G:List MO},G[k]?=Y (.lst (l.map aP))->l.length<=1000->fg q l=Y n->K (.int n) G->aU aqR [Y (.ref k),Y (aP q)] G (eA K) (λC fs _ H=>X C fs H):=λi m w h =>
  cW (v:=.int _) (aa3 (U rfl) (adQ i) (by rw[ie i];kernel_rfl!) (ai (U rfl) aw) (acy i (cC m) w)) h
 unfold dU at h;cases f:fg q ks with
 |some n =>
  rw[f]at h;have h:K (.int n) (H.set k (.lst (ks.map aP))):=h;rw[set_same a]at h;exact fun2 (cu (bq (U rfl) (U rfl) (by rw[Q9 a,f];rfl)) (b a (LI j (by decide)) f h))
 |none =>
  rw[f]at h;have h:K (.int ks.length) (H.set k (.lst ((ks++[q]).map aP))):=h;refine fun2 (ct (bq (U rfl) (U rfl) (by rw[Q9 a,f];rfl)) (fL ?_));refine ir (U rfl) (ie a) l9 (kK (xs:=[aP q]) (ai (U rfl) aw) (oI (oa a (cC (by rw[QC];exact LI j (by decide)))) ?_));have e:H.set k (.lst (ks.map aP++[aP q]))=H.set k (.lst ((ks++[q]).map aP)):=by rw[ajG];rfl
  rw[show(H.set k (MO.lst (ks.map aP++[aP q])))=_ from e];exact b (dW a _) (by rw[LN];exact LI (alp j 1) (by decide)) (NZ f hq) h
variable{κ:Kd}{n:Nat}{nm:Nat}
def uX(p:Kd×List TT):O:=.lst (bO p.2)
theorem YO{k0:Nat}(j:H[k0]?=LA)(m:H[k]?=Y (.lst (ks.map aP)))(z:bf ks 1000=W)(hm:ks[n]?=Y κ):∀(t:List (Kd×List TT)) (acc:List O) (G:List MO),acc.length+t.length<=100->Le H G->G[k0]?=Y (.lst acc)-> (∀G,Le H G->K (.lst (acc++(t.filter λp=>cV p.1 κ).map uX)) G)->og (ao (aF ay) ak (aj 1)) [aC aX (ao (aF ay) ak (aj 0)) (ao (aF ay) ax aD)] [Y (.ref k),Y (.int n)] k0 (λG=>lZ k0 G K) X (t.map oJ) G:=by
 intro t;induction t with
 |nil=>exactλacc G _ le i h=>oI (a:=acc) (by rw[i];rfl) (VJ acc▸h _ (le.st j .dead))
 |cons r t l =>
  intro acc G w le i h;have A:Ev aq7 [Y (oJ r),Y (.ref k),Y (.int n)] G (cV r.1 κ):=bq (aV (v:=aP r.1) (U rfl) aq rfl) (aV (v:=aP κ) (U rfl) (U rfl) (PG (le.g m) z hm)) (ED _ _);rw[VR];unfold og;refine A _ _ ?_;have f:acc.length+(t.length+1)<=100:=w;rw[List.filter_cons]at h;cases b:cV r.1 κ with
  |false =>
   rw[b]at h;exact cF rfl (l acc G (ak7 f) le i h)
  |true =>
   rw[b]at h;refine cT rfl (aV (v:=uX r) (U rfl) aq rfl _ _ (oI (a:=G.set k0 (.lst (acc++[uX r]))) ?_ (l (acc++[uX r]) _ (by rw[LN];exact LI (ajS (ajH _ _)) f) (le.st j _) (dW i _) λG le=>?_)))
   .unfold pN;rw[i];show gd (fits acc) _=_;rw[show fits acc=W from cC (LI (ajk _ _) (LI f (by decide)))];rfl
   .rw[aa0];exact h G le
theorem YP(a:e[1]?=some (some (.ref k)))(b:e[5]?=some (some (.int n)))(i:H[k]?=some (.lst (ks.map aP)))(j:bf ks 1000=true)(hm:ks[n]?=some κ)(h:∀G,Le H G->K (.lst ((K8.filter λp=>cV p.1 κ).map uX)) G): jt (mQ (aB om [])) [1,5] (ao (aF ay) ak (aj 1)) [aC aX (ao (aF ay) ak (aj 0)) (ao (aF ay) ax aD)] e H K X:=by
 have f:mZ [1,5] e=some [some (.ref k),some (.int n)]:=by
  show((e[1]?).bind id).bind (λv=>(((e[5]?).bind id).bind λw=>some [some w]).bind λq=>some (some v::q))=_;rw[a,b];rfl
 refine cast yi.symm (oI f (HU (oI (x:=Qh (.lst (K8.map oJ))) rfl ?_)));exact YO (jE H) i j hm K8 [] _ (by decide) (Le.n H _) (eG H _) h
def tW(n:Nat):OW:=match n with|0=>Km|1=>Kt|_=>Kv
def lg(nm n:Nat)(y:Int):OW:=cond (LK (md (y.fdiv 8) 2) 0&&VE n nm) (tW n) (qx n)
def k8(i:Nat):Kd×List TT:=(K8[i]?).getD (([],[]),[])
def jz(κ:Kd):List TT:=match K8.filter (λp=>cV p.1 κ) with | []=>[]|p::_=>p.2
noncomputable def mK(κ:Kd):Bool:=(match κ.1 with | []=>W|_::_=>LB)&&VE κ.2.length 2
def lQ(y:Int)(w:Nat)(ks:List Kd)(nm n:Nat):List TT×Int×List Kd:=(.l [.w ip,.w (lg nm n y)]::cond (LK w 1) (jz ((ks[n]?).getD ([],[]))) [],n,ks)
def i7(r:Kd×List TT)(b:Bool)(ks:List Kd):List TT×Int×List Kd:=cond (b&&mK r.1) (r.2,o9 r.1.2,ks) (r.2,(dU ks r.1).1,(dU ks r.1).2)
def dk(x:Int)(ks:List Kd)(nm:Nat)(b:Bool):List TT×Int×List Kd:=cond (VE (md x 4) 2) (lQ (x.fdiv 4) (md x 4) ks nm (md (x.fdiv 4) ks.length)) (i7 (k8 (md (x.fdiv 4) 8)) b ks)
theorem aho{n:Nat}(a:n < 3):∀H,aQ (.str xe) (.str (qx n).1.txt) H=Y (.str (tW n).1.txt) :=λH=>by revert n;apply gM;kernel_rfl!
theorem ahu{y:Int}(f:n < 8)(hm:nm<=3)(h:e[0]?=Y (Y (.int y)))(i:e[2]?=Y (Y (.int nm)))(a:e[5]?=Y (Y (.int n))): Ev aqV e H (.str (lg nm n y).1.txt):=by
 refine vM (Be (t:=LK (md (y.fdiv 8) 2) 0&&VE n nm) (v:=.str (tW n).1.txt) (w:=.str (qx n).1.txt) (EF (bq (aV (aV (U h) aq rfl) aq (gC (m:=2) (by decide))) aq (wJ _ 0)) (bq (U a) (U i) (wN _ _))) (λq=>?_) λ_=>Iu f a) ?_
 .exact aV aq (Iu f a) (aho (LR (ajZ (LQ (aY q λ_ b=>b))) hm) _)
 .unfold lg;cases (LK (md (y.fdiv 8) 2) 0&&VE n nm)<;>rfl
theorem HN:(agL 8).all (λi=>cV (k8 i).1 (k8 i).1)=W:=by decide +kernel
theorem ade:(agL 8).all (λi=>VZ (k8 i).1.1.length 10&&VZ (k8 i).1.2.length 10)=W:=by decide +kernel
theorem Qm{i:Nat}(hi:i < 8):(K8.map oJ)[i]?=Y (oJ (k8 i)):=by
 rw[abI];unfold k8;cases q:K8[i]? with
 |none=>exact absurd (VS.mp q) (aoC hi)
 |some r=>rfl
theorem KI:(agL 8).all (λi=>VZ (bO (jz (k8 i).1)).length 20)=W:=by decide +kernel
theorem YN:(agL 8).all (λi=>match K8.filter (λp=>cV p.1 (k8 i).1) with | []=>LB|_::_=>W)=W:=by decide +kernel
def eU(ks:List Kd):Prop:=∀q∈ks,∃i,i < 8/\q=(k8 i).1
def vo(w:OW)(l:List TT):List TT:=.l [.w ip,.w w]::l
theorem YM{i:Nat}(hi:i < 8):aF ay (.lst ((K8.filter λp=>cV p.1 (k8 i).1).map uX)) (.int 0) H=Y (.lst (bO (jz (k8 i).1))):=by
 have:=UA.mp YN i (aeM.mpr hi);unfold jz;cases q:K8.filter λp=>cV p.1 (k8 i).1 with
 |nil=>rw[q]at this;exact bL this
 |cons r t=>exact uW (n:=0) rfl (by decide) H
theorem ahB{w:Nat}(hw:VE w 2=W)(j:H[k]?=Y (.lst (ks.map aP)))(D:eU ks)(A:0 < ks.length)(l:ks.length<=8)(hm:nm<=3)(he:e=[Y (.int y),Y (.ref k),Y (.int nm),Y (.bool b),Y (.int w),LA,LA,LA,LA,LA,LA,LA])(h:∀G,Le H G->K (.tup [.lst (bO (lQ y w ks nm (md y ks.length)).1),.int (md y ks.length)]) G): ah (aZ 5 (ao eX ak (bW ax))) ap2 e H (mJ C (eA K) λC fs _ H=>X C fs H) (λC fs _ H=>X C fs H):=by
 subst he;have z:bf ks 1000=W:=cC (LI l (by decide));have a:=(fC A y).1;refine eS (v:=.int (md y ks.length)) (aV (U rfl) (dy (U rfl) (Qv j z)) (gC A)) ?_;refine eS (ahu (y:=y) (nm:=nm) (n:=md y ks.length) (LR a l) hm rfl rfl rfl) ?_;refine fK (YP (n:=md y ks.length) rfl rfl j z (WB a) λG le=>?_);refine cW (v:=.tup [.lst (bO (lQ y w ks nm (md y ks.length)).1),.int (md y ks.length)]) (cA (ai ?_ (ai (U rfl) aw)) rfl) (h G le);refine aM (D _ (ajO a)) λi hi f=>?_;have e1:Ev aq6 [Y (.int y),Y (.ref k),Y (.int nm),Y (.bool b),Y (.int w),Y (.int (md y ks.length)),Y (.str (lg nm (md y ks.length) y).1.txt),Y (.lst ((K8.filter λp=>cV p.1 ks[md y ks.length]).map uX)),LA,LA,LA,LA] G (.lst (cond (LK w 1) (bO (jz ks[md y ks.length])) [])):=by
  refine vM (Be (v:=.lst (bO (jz ks[md y ks.length]))) (w:=.lst []) (bq (U rfl) aq (wJ w 1)) (λ_=>aV (U rfl) aq (by rw[f];exact YM hi)) λ_=>dS aw rfl) ?_;cases LK w 1<;>rfl
 refine aV (dS (ai (x:=.lst [.str cZ,.str (lg nm (md y ks.length) y).1.txt]) (dS (ai aq (ai (U rfl) aw)) rfl) aw) rfl) e1 ?_;have B:bO (lQ y w ks nm (md y ks.length)).1=[.lst [.str cZ,.str (lg nm (md y ks.length) y).1.txt]]++cond (LK w 1) (bO (jz ks[md y ks.length])) []:=by
  unfold lQ;rw[WB a];cases LK w 1<;>rfl
 rw[B];refine add_l (xs:=[.lst [.str cZ,.str (lg nm (md y ks.length) y).1.txt]]) (show listOf G (.lst _)=Y _ from rfl) (cC ?_);rw[f];rw[LN];refine LI (ajh (m:=20) ?_ _) (show 1+20<=60000 by decide);cases LK w 1
 .exact aeN _
 .exact LQ (UA.mp KI i (aeM.mpr hi))
variable{b:Bool}
theorem ad9(l:List Int):aX (.tup (iA l)) (.tup []) H=Y (match l with | []=>W|_::_=>LB):=by
 unfold aX;rw[show(iG (.tup (iA l)) (.tup []) λa b=>Y (a == b))=LA from rfl,show((aS (.tup (iA l))).bind λx=>(aS (.tup [])).bind λy=>Y (x == y))=LA from rfl,show oO (.tup (iA l)) (.tup []) H=LA from rfl];show kj _ _ _=_;unfold kj;rw[show toPy H cM (.tup (iA l))=Y (.tuple (l.map .int)) by show(eQ (toPy H 49) (iA l)).map ajU=_;rw[zM 48];rfl];show gd (df cM (.tuple (l.map .int))&&W) (Y (ahT (l.map .int) []))=_;rw[show df cM (.tuple (l.map .int))=W from u9 48 l];cases l<;>rfl
theorem Qw{l:List Int}(h:l.length<=10):iZ (.tup (iA l)) H=Y (.int l.length):=by
 show alt LA (alt (gd (fits (iA l)) (Y (O.int (iA l).length))) _)=_;rw[B9,show fits (iA l)=W from cC (by rw[B9];exact LI h (by decide))];rfl
theorem aev{l:List Int}(f:l.length<=10)(h:e[11]?=Y (Y (.tup (iA l))))(s:VE l.length 2=W):Ev aq1 e H (.int (o9 l)):=by
 have t:Ev (aC aX (bW jC) (aj 1)) e H (LK l.length 1):=bq (dy (U h) (Qw f)) aq (wJ _ 1)
 match l,s with
 | [],_=>exact pW t (rj aq rfl)
 | [a],_=>exact rg t (aV (U h) aq rfl)
 |_::_::_,s=>exact bL s
theorem ahC{i:Nat}(hi:i < 8)(j:H[k]?=Y (.lst (ks.map aP)))(l:ks.length<=800)(he:e=[Y (.int y),Y (.ref k),Y (.int nm),Y (.bool b),Y (.int n),LA,LA,LA,Y (aP (k8 i).1),Y (.lst (bO (k8 i).2)),LA,LA])(h:∀G,Up [k] H G->G[k]?=Y (.lst ((i7 (k8 i) b ks).2.2.map aP))->K (.tup [.lst (bO (i7 (k8 i) b ks).1),.int (i7 (k8 i) b ks).2.1]) G): ah (cX [10,11] fX) ap6 e H (eA K) (λC fs _ H=>X C fs H):=by
 subst he;have f:=UA.mp ade i (aeM.mpr hi);have f2:(k8 i).1.2.length<=10:=LQ (aY f λ_ b=>b);refine i6 (xs:=[.tup (iA (k8 i).1.1),.tup (iA (k8 i).1.2)]) (U rfl) rfl ?_;have t2:=EF (e:=[Y (.int y),Y (.ref k),Y (.int nm),Y (.bool b),Y (.int n),LA,LA,LA,Y (aP (k8 i).1),Y (.lst (bO (k8 i).2)),Y (.tup (iA (k8 i).1.1)),Y (.tup (iA (k8 i).1.2))]) (H:=H)
  (bq (U (i:=10) rfl) (cA aw rfl) (ad9 (k8 i).1.1)) (bq (dy (U (i:=11) rfl) (Qw f2)) aq (wN (k8 i).1.2.length 2))
 have a:Ev aq0 [Y (.int y),Y (.ref k),Y (.int nm),Y (.bool b),Y (.int n),LA,LA,LA,Y (aP (k8 i).1),Y (.lst (bO (k8 i).2)),Y (.tup (iA (k8 i).1.1)),Y (.tup (iA (k8 i).1.2))] H (b&&mK (k8 i).1):=by
  cases b
  .exact jg (iw (U rfl) rfl)
  .exact gO (iw (U rfl) rfl) t2
 unfold i7 at h;refine bc (b:=b&&mK (k8 i).1) (λhb=>?_) λhb=>?_
 .rw[hb]at a h;have sb:VE (k8 i).1.2.length 2=W:=aY hb λ_ z=>aY z λ_ z=>z;exact ct a (ko (v:=.tup [.lst (bO (k8 i).2),.int (o9 (k8 i).1.2)]) (cA (ai (U rfl) (ai (aev f2 rfl sb) aw)) rfl) (h H Up.r j))
 .rw[hb]at a h;refine cu a (C4 (U (v:=.lst (bO (k8 i).2)) rfl _ _ ?_));show aB vU _ _ _ _ _;refine d7 (xs:=[.ref k,aP (k8 i).1]) (ai (U rfl) (ai (U rfl) aw)) (aem j (LI l (by decide)) (UA.mp HN i (aeM.mpr hi)) ?_);exact bI rfl (h _ (Up.r.set (by show cond (LK k k) W LB=W;rw[ajT];rfl)) (dW j _))
theorem ahF(a:H[k]?=Y (.lst (ks.map aP)))(i:eU ks)(j:0 < ks.length)(f:ks.length<=8)(hm:nm<=3)(h:∀G,Up [k] H G->G[k]?=Y (.lst ((dk x ks nm b).2.2.map aP))->K (.tup [.lst (bO (dk x ks nm b).1),.int (dk x ks nm b).2.1]) G):uj [.int x,.ref k,.int nm,.bool b] H K X:=by
 unfold uj;refine p5 (eS (v:=.int (md x 4)) (aV (U rfl) aq (gC (m:=4) (by decide))) (eS (v:=.int (x.fdiv 4)) (aV (U rfl) aq rfl) ?_));unfold dk at h;refine bc (b:=VE (md x 4) 2) (λhb=>?_) λhb=>?_
 .rw[hb]at h;refine ct (bq (U rfl) aq ((wN _ 2).trans (congrArg Y hb))) ?_;exact ahB (y:=x.fdiv 4) (w:=md x 4) hb a i j f hm rfl λG le=>h G le.u (le.g a)
 .rw[hb]at h;refine cu (bq (U rfl) aq ((wN _ 2).trans (congrArg Y hb))) ?_;have hi:=(fC (m:=8) (by decide) (x.fdiv 4)).1;refine i6 (xs:=[aP (k8 (md (x.fdiv 4) 8)).1,.lst (bO (k8 (md (x.fdiv 4) 8)).2)]) (aV (jh (v:=.lst (K8.map oJ)) aw λK X k=>HU k) (aV (U rfl) aq (gC (m:=8) (by decide))) (uW (Qm hi) (aj9 hi (by decide)) _)) rfl ?_;exact ahC hi a (LI f (by decide)) rfl h
abbrev On:=List TT×List (List Int)×List Kd
def gF(n:Nat):OW:=match n with|0=>W3|1=>xP|_=>Kl
def IB(s:Nat)(u:List TT×Int×List Kd):On:=(.w (gF s)::u.1,[[2+s,u.2.1],[11]],u.2.2)
def vb(s:Nat)(a:List TT)(t:Nat)(u:List TT×Int×List Kd):On:=(.w (cond (LK s 3) W7 ly)::(a++u.1),[[cond (LK s 3) 17 19,u.2.1,t]],u.2.2)
def i5(n:Nat):OW×Nat×Nat:=match n with|0=>(W8,16,0)|1=>(XU,18,0)|2=>(XX,210,0)|3=>(Kh,35,2)|4=>(Kk,36,2)|5=>(DE,64521,4)|6=>(X2,64520,4)|_=>(Kj,64525,3)
def gG(n:Nat):OW×Nat:=match n with|0=>(XT,37)|1=>(XW,38)|2=>(Ki,64528)|3=>(XY,64527)|_=>(X1,64529)
def fH(x:Int)(ks:List Kd)(nm:Nat):On:=one8 (md x 8) (x.fdiv 8)
where
 one8 (s:Nat) (y:Int):On:=cond (VE s 3) (IB s (dk y ks nm W))
  (cond (VE s 5) (cond (LK (md y 2) 0) (vb s [.w (cz 1 (y.fdiv 2))] (md (y.fdiv 2) 3) (dk (y.fdiv 16) ks nm LB)) (vb s [] 0 (dk (y.fdiv 16) ks nm LB)))
  (cond (LK s 5) ([.w (i5 (md y 8)).1,.w (cz (i5 (md y 8)).2.2 (y.fdiv 8))],[[(i5 (md y 8)).2.1,md (y.fdiv 8) 3]],ks)
  (cond (LK s 6) (cond (LK (md (y.fdiv 5) 3) 0) ([.w (gG (md y 5)).1],[[(gG (md y 5)).2,0]],ks) ([.w (gG (md y 5)).1,.w (cz 1 (y.fdiv 15))],[[(gG (md y 5)).2,md (y.fdiv 15) 3]],ks))
  (cond (LK (md y 2) 0)
   (cond (LK (md (y.fdiv 100) 3) 0) ([.w lu],[[64526,0,0]],ks) ([.w lu,.w (cz 1 (y.fdiv 2)),.w (cz 1 (y.fdiv 16))],[[64526,md (y.fdiv 2) 3,md (y.fdiv 16) 3]],ks))
   (cond (LK (md (y.fdiv 100) 3) 0) ([.w jw,.w (cz 3 (y.fdiv 16))],[[64524,md (y.fdiv 16) 3,0]],ks) ([.w jw,.w (cz 1 (y.fdiv 2)),.w (cz 3 (y.fdiv 16))],[[64524,md (y.fdiv 16) 3,md (y.fdiv 2) 3]],ks))))))
def CP(o:On):O:=.tup [.lst (bO o.1),.lst (fB o.2.1)]
theorem CB{P:Nat->Prop}(a:P 0)(b:P 1)(c:P 2)(d:P 3)(e:P 4)(f:P 5)(g:P 6)(h:P 7):∀k,k < 8->P k:=jk (jk (jk (QO d e f g h) c) b) a
theorem EH{l:Nat}{a b:EM O}{y:Int}(h:l < 5)(f:Ev a e H (.int y))(hb:Ev b e H (.str (zt l))):Ev (aB l6 [a,b]) e H (.tup [.str (cz l y).1.txt,.int (md y 3)]):=jh (ai f (ai hb aw)) λK X k=>ad0 h k
theorem kR{t:Bool}{a b:Nat}(h:LK a b=t):aX (.int a) (.int b) H=Y t:=(wJ a b).trans (congrArg Y h)
theorem CC{t:Bool}{a b:Nat}(h:VE a b=t):ef (.int a) (.int b) H=Y t:=(wN a b).trans (congrArg Y h)
theorem tX{xs ys:List O}(h:xs.length+ys.length<=1000):aQ (.lst xs) (.lst ys) H=Y (.lst (xs++ys)):=add_l rfl (cC (by rw[LN];exact LI h (by decide)))
theorem ahE:∀i,i < 8->VZ (bO (k8 i).2).length 20=W:=λi hi=>UA.mp (show(agL 8).all (λi=>VZ (bO (k8 i).2).length 20)=W by decide +kernel) i (aeM.mpr hi)
theorem Jx(h:eU ks)(j:0 < ks.length):(bO (dk x ks nm b).1).length<=30:=by
 unfold dk;cases VE (md x 4) 2 with
 |true =>
  have a:=(fC j (x.fdiv 4)).1;refine aM (h _ (ajO a)) λi hi f=>?_;show(bO (lQ _ _ _ _ _).1).length<=30;unfold lQ;rw[WB a];show(bO (cond _ (jz ks[md (x.fdiv 4) ks.length]) [])).length+1<=30;rw[f];cases LK (md x 4) 1
  .exact LQ rfl
  .exact LI (VT (LQ (UA.mp KI i (aeM.mpr hi)))) (by decide)
 |false =>
  have hi:=(fC (m:=8) (by decide) (x.fdiv 4)).1;show(bO (i7 _ _ _).1).length<=30;unfold i7;have l:=LQ (ahE _ hi);cases b&&mK (k8 (md (x.fdiv 4) 8)).1<;>exact LI l (by decide)
theorem MH{a f i:EM O}(j:Ev a e H (.int y))(h1:Ev f e H (.ref k))(l:Ev i e H (.int nm))(w:H[k]?=Y (.lst (ks.map aP)))(m:eU ks)(A:0 < ks.length)(z:ks.length<=8)(hm:nm<=3)(h:∀G,Up [k] H G->G[k]?=Y (.lst ((dk y ks nm b).2.2.map aP))->K (.tup [.lst (bO (dk y ks nm b).1),.int (dk y ks nm b).2.1]) G):aB uj [a,f,i,aW (.bool b)] e H K X:=d7 (ai j (ai h1 (ai l (ai aq aw)))) (ahF w m A z hm h)
theorem Bg{a:EM O}{y:Int}(f:Ev a e H (.int y)):Ev (aB l6 [a,af tl]) e H (.tup [.str (cz 1 y).1.txt,.int (md y 3)]):=EH (l:=1) (by decide) f aq
theorem aa4{a:EM O}{y:Int}(f:Ev a e H (.int y)):Ev (aB l6 [a,af xb]) e H (.tup [.str (cz 3 y).1.txt,.int (md y 3)]):=EH (l:=3) (by decide) f aq
def I3(l:List Nat):O:=.lst (l.map λi=>.tup [.str (i5 i).1.1.txt,.int (i5 i).2.1,.str (zt (i5 i).2.2)])
def Si(l:List Nat):O:=.lst (l.map λi=>.tup [.str (gG i).1.1.txt,.int (gG i).2])
set_option maxHeartbeats 4000000 in
theorem aew(j:H[k]?=Y (.lst (ks.map aP)))(I:eU ks)(L:0 < ks.length)(T:ks.length<=8)(hm:nm<=3)(h:∀G,Up [k] H G->G[k]?=Y (.lst ((fH x ks nm).2.2.map aP))->K (CP (fH x ks nm)) G):yB [.int x,.ref k,.int nm] H K X:=by
 unfold yB;unfold fH at h;have Q:=(fC (m:=8) (by decide) x).1;refine j5 (eS (v:=.int (md x 8)) (aV (U rfl) aq (gC (m:=8) (by decide))) (eS (v:=.int (x.fdiv 8)) (aV (U rfl) aq rfl) ?_));show ah _ _ [Y (.int (x.fdiv 8)),Y (.ref k),Y (.int nm),Y (.int (md x 8)),LA,LA,LA,LA,LA,LA,LA,LA,LA,LA,LA,LA,LA] H _ _;generalize md x 8=s at h Q ⊢;generalize x.fdiv 8=y at h ⊢;unfold fH.one8 at h;refine bc (b:=VE s 3) (λz=>?_) λz=>?_
 .rw[z]at h;refine ct (bq (U rfl) aq (CC z)) (fA (iL (MH (U rfl) (U rfl) (U rfl) j I L T hm λG u M=>oI (a:=_) rfl ?_)));refine cW (v:=CP (IB s (dk y ks nm W))) (cA (ai (aV (v:=.lst (bO (.w (gF s)::(dk y ks nm W).1))) (dS (ai (x:=.str (gF s).1.txt) (aV (dS (ai aq (ai aq (ai aq aw))) rfl) (U rfl) ?_) aw) rfl) (U rfl) (tX (LI (ajh (Jx I L) _) (show 1+30<=1000 by decide)))) (ai (dS (ai (cA (ai (aV (v:=.int (2+s)) aq (U rfl) rfl) (ai (U rfl) aw)) rfl) (ai (cA (ai aq aw) rfl) aw)) rfl) aw)) rfl) (h G u M);exact CA (P:=λs=>aF ay (.lst [.str hX,.str uD,.str fP]) (.int s) G=Y (.str (gF s).1.txt)) rfl rfl rfl s (ajZ (LQ z))
 .rw[z]at h;refine cu (bq (U rfl) aq (CC z)) ?_;have g3:3<=s:=ale λq=>by rw[show VE s 3=W from alh q]at z;exact qK z
  refine bc (b:=VE s 5) (λA=>?_) λA=>?_
  .rw[A]at h;refine ct (bq (U rfl) aq (CC A)) (fA (i6 (xs:=[.lst [],.int 0]) (cA (ai (dS aw rfl) (ai aq aw)) rfl) rfl (fA ?_)));have g5:s < 5:=ajZ (LQ A);have es:s=3∨s=4:=(anE (ajK g5)).elim (λq=>.inl (akM (ajK q) g3)) .inr;have D:∀{S:SM}{a:List TT}{t:Nat}{x8:Option O},a.length<=1->(∀G,Up [k] H G->G[k]?=Y (.lst ((vb s a t (dk (y.fdiv 16) ks nm LB)).2.2.map aP))->K (CP (vb s a t (dk (y.fdiv 16) ks nm LB))) G) ->
     (ah (cX [4,5] (aB uj [ao fR ak (aj 16),ax,aD,aW (.bool LB)]))
     (ah aql
     aqs)) [Y (.int y),Y (.ref k),Y (.int nm),Y (.int s),LA,LA,Y (.lst (bO a)),Y (.int t),x8,LA,LA,LA,LA,LA,LA,LA,LA] H (mJ S (eA K) λC fs _ H=>X C fs H) (λC fs _ H=>X C fs H):=λ{S a t x8} B h=>by
    refine iL (MH (aV (U rfl) aq rfl) (U rfl) (U rfl) j I L T hm λG u M=>oI (a:=_) rfl ?_);refine i6 (xs:=[.str (cond (LK s 3) W7 ly).1.txt,.int (cond (LK s 3) 17 19)]) (aV (dS (ai (cA (ai aq (ai aq aw)) rfl) (ai (cA (ai aq (ai aq aw)) rfl) aw)) rfl) (aV (v:=.int (s - 3)) (U rfl) aq rfl) (by rcases es with es|es<;>rw[es]<;>rfl)) rfl ?_;have Z:(bO a).length<=1:=by
     match a,B with
     | [],_=>exact aeN _
     | [_],_=>exact LL _
     |_::_::_,B=>exact absurd (ada B) (alv _)
    refine cW (v:=CP (vb s a t (dk (y.fdiv 16) ks nm LB))) (cA (ai (aV (v:=.lst (bO (.w (cond (LK s 3) W7 ly)::(a++(dk (y.fdiv 16) ks nm LB).1)))) (aV (v:=.lst (bO (.w (cond (LK s 3) W7 ly)::a))) (dS (ai (U rfl) aw) rfl) (U rfl) (tX (LI (ajh Z _) (show 1+1<=1000 by decide)))) (U rfl) ?_) (ai (dS (ai (cA (ai (U rfl) (ai (U rfl) (ai (U rfl) aw))) rfl) aw) rfl) aw)) rfl) (h G u M);refine(tX (LI (alJ (VT Z) (Jx I L)) (show 2+30<=1000 by decide))).trans (congrArg (λl=>Y (O.lst (.str (cond (LK s 3) W7 ly).1.txt::l))) ?_)
    match a,B with
    | [],_=>rfl
    | [_],_=>rfl
    |_::_::_,B=>exact absurd (ada B) (alv _)
   refine bc (b:=LK (md y 2) 0) (λhb=>?_) λhb=>?_
   .rw[hb]at h;refine ct (bq (aV (U rfl) aq (gC (m:=2) (by decide))) aq (kR hb)) (fA (i6 (xs:=[.str (cz 1 (y.fdiv 2)).1.txt,.int (md (y.fdiv 2) 3)]) (Bg (aV (U rfl) aq rfl)) rfl (eS (v:=.lst (bO [.w (cz 1 (y.fdiv 2))])) (dS (ai (U rfl) aw) rfl) ?_)));exact D (LL _) h
   .rw[hb]at h;exact cu (bq (aV (U rfl) aq (gC (m:=2) (by decide))) aq (kR hb)) (D (a:=[]) (aeN _) h)
  .rw[A]at h;refine cu (bq (U rfl) aq (CC A)) ?_;have h:=h H Up.r;refine bc (b:=LK s 5) (λhb=>?_) λhb=>?_
   .rw[hb]at h;have hi:=(fC (m:=8) (by decide) y).1;refine ct (bq (U rfl) aq (kR hb)) (fA (eS (v:=I3 [0,1,2,3]) (ek (by kernel_rfl!)) (fA (eS (v:=I3 [0,1,2,3,4,5,6]) (ek (by kernel_rfl!)) (fA ?_)))));refine i6 (xs:=[.str (i5 (md y 8)).1.1.txt,.int (i5 (md y 8)).2.1,.str (zt (i5 (md y 8)).2.2)]) (aV (x:=I3 [0,1,2,3,4,5,6,7]) (ek (by kernel_rfl!)) (aV (U rfl) aq (gC (m:=8) (by decide))) ?_) rfl ?_
    .generalize md y 8=i at hi;revert i;exact CB rfl rfl rfl rfl rfl rfl rfl rfl
    have N:(i5 (md y 8)).2.2 < 5:=CB (P:=λi=>(i5 i).2.2 < 5) (by decide) (by decide) (by decide) (by decide) (by decide) (by decide) (by decide) (by decide) _ hi;exact fA (i6 (xs:=[.str (cz (i5 (md y 8)).2.2 (y.fdiv 8)).1.txt,.int (md (y.fdiv 8) 3)]) (EH N (aV (U rfl) aq rfl) (U rfl)) rfl (ko (cA (ai (dS (ai (U rfl) (ai (U rfl) aw)) rfl) (ai (dS (ai (cA (ai (U rfl) (ai (U rfl) aw)) rfl) aw) rfl) aw)) rfl) (h j)))
   .rw[hb]at h;refine cu (bq (U rfl) aq (kR hb)) ?_;refine bc (b:=LK s 6) (λE=>?_) λE=>?_
    .rw[E]at h;have hi:=(fC (m:=5) (by decide) y).1;refine ct (bq (U rfl) aq (kR E)) (fA (eS (v:=Si [0,1,2,3]) (ek (by kernel_rfl!)) (fA ?_)));refine i6 (xs:=[.str (gG (md y 5)).1.1.txt,.int (gG (md y 5)).2]) (aV (x:=Si [0,1,2,3,4]) (ek (by kernel_rfl!)) (aV (U rfl) aq (gC (m:=5) (by decide))) ?_) rfl (fA ?_)
     .generalize md y 5=i at hi;revert i;exact QO rfl rfl rfl rfl rfl
     refine bc (b:=LK (md (y.fdiv 5) 3) 0) (λhb=>?_) λhb=>?_
     .rw[hb]at h;exact ct (bq (aV (aV (U rfl) aq rfl) aq (gC (m:=3) (by decide))) aq (kR hb)) (ko (cA (ai (dS (ai (U rfl) aw) rfl) (ai (dS (ai (cA (ai (U rfl) (ai aq aw)) rfl) aw) rfl) aw)) rfl) (h j))
     .rw[hb]at h;exact cu (bq (aV (aV (U rfl) aq rfl) aq (gC (m:=3) (by decide))) aq (kR hb)) (fA (i6 (xs:=[.str (cz 1 (y.fdiv 15)).1.txt,.int (md (y.fdiv 15) 3)]) (Bg (aV (U rfl) aq rfl)) rfl (ko (cA (ai (dS (ai (U rfl) (ai (U rfl) aw)) rfl) (ai (dS (ai (cA (ai (U rfl) (ai (U rfl) aw)) rfl) aw) rfl) aw)) rfl) (h j))))
    .rw[E]at h;refine cu (bq (U rfl) aq (kR E)) (i6 (xs:=[.str (cz 1 (y.fdiv 2)).1.txt,.int (md (y.fdiv 2) 3)]) (Bg (aV (U rfl) aq rfl)) rfl ?_);refine bc (b:=LK (md y 2) 0) (λhb=>?_) λhb=>?_
     .rw[hb]at h;refine ct (bq (aV (U rfl) aq (gC (m:=2) (by decide))) aq (kR hb)) (fA (i6 (xs:=[.str (cz 1 (y.fdiv 16)).1.txt,.int (md (y.fdiv 16) 3)]) (Bg (aV (U rfl) aq rfl)) rfl (fA ?_)));refine bc (b:=LK (md (y.fdiv 100) 3) 0) (λf=>?_) λf=>?_
      .rw[f]at h;exact ct (bq (aV (aV (U rfl) aq rfl) aq (gC (m:=3) (by decide))) aq (kR f)) (ko (cA (ai (dS (ai aq aw) rfl) (ai (dS (ai (cA (ai aq (ai aq (ai aq aw))) rfl) aw) rfl) aw)) rfl) (h j))
      .rw[f]at h;exact cu (bq (aV (aV (U rfl) aq rfl) aq (gC (m:=3) (by decide))) aq (kR f)) (ko (cA (ai (dS (ai aq (ai (U rfl) (ai (U rfl) aw))) rfl) (ai (dS (ai (cA (ai aq (ai (U rfl) (ai (U rfl) aw))) rfl) aw) rfl) aw)) rfl) (h j))
     .rw[hb]at h;refine cu (bq (aV (U rfl) aq (gC (m:=2) (by decide))) aq (kR hb)) (i6 (xs:=[.str (cz 3 (y.fdiv 16)).1.txt,.int (md (y.fdiv 16) 3)]) (aa4 (aV (U rfl) aq rfl)) rfl ?_);refine bc (b:=LK (md (y.fdiv 100) 3) 0) (λf=>?_) λf=>?_
      .rw[f]at h;exact ct (bq (aV (aV (U rfl) aq rfl) aq (gC (m:=3) (by decide))) aq (kR f)) (ko (cA (ai (dS (ai aq (ai (U rfl) aw)) rfl) (ai (dS (ai (cA (ai aq (ai (U rfl) (ai aq aw))) rfl) aw) rfl) aw)) rfl) (h j))
      .rw[f]at h;exact cu (bq (aV (aV (U rfl) aq rfl) aq (gC (m:=3) (by decide))) aq (kR f)) (cW (cA (ai (dS (ai aq (ai (U rfl) (ai (U rfl) aw))) rfl) (ai (dS (ai (cA (ai aq (ai (U rfl) (ai (U rfl) aw))) rfl) aw) rfl) aw)) rfl) (h j))
end
abbrev Row:=List TT×Str×Int
def Dc(x:Row):O:=.tup [.lst (bO x.1),.str x.2.1,.int x.2.2]
def lO:List Row:=[([.w W3,.l [.w W4,.w W5,.w W6],.w W1],cI,1),([.w W7,.l [.w W4,.w W5,.w W6]],cI,1),([.w W8,.w W9],Se,1),([.w Kh,.w W9],Sf,1),([.w Ki,.w W9],xf,1),([.w DE,.w W9],Sd,1),([.w Kj,.w W9],C0,1),([.w jw,.w kG,.w W9],C0,2),([.w jw,.w W9,.w kG],xf,1),([.w W7,.w W9],xf,1),([.w W3,.l [.w ip,.w W9],.w W1],I1,3),([.w W8],cI,0),([.w DE],cI,0),([.w W8,.l [.w W0]],cI,1),([.w lu,.w kG],cI,1),([.w jw],cI,0),([.w jw,.l [.w W0]],cI,1),([.w Kk,.w XG],cI,1),([.w W8,.w XH],zU,1),([.w W3,.l [.w ip,.w kG],.l [.w W4,.w tT,.w tT],.w W1],nO,1),([.w xP,.l [.w ip,.w vy],.l [.w jx,.w W6],.w W1],C1,1),([.w W7,.l [.w ip,.w kG],.l [.w ip,.w kG]],cI,5),([.w W3,.l [.w jx,.w W6],.l [.w W4,.w W6],.w W1],cI,5),([.w W3,.l [.w W4,.w W6],.l [.w ip,.w kG],.w W1],cI,5),([.w W3,.l [.w ip,.w kG,.w kG],.w W1],cI,4),([.w W3,.l [.w ip],.w W1],cI,1),([.w Kl,.l [.w jx,.w W5,.w W6],.w XI,.w W1],cI,3),([.w XJ],IX,-1),([.w XM,.l [.w jx,.w XN]],yM,-1),([.w XO],IZ,-1),([.w W3,.l [.w jx,.w XQ],.w W1],v9,-1),([.w XR],IY,-1)]
theorem ahS{K:bj}(h:K (.lst (lO.map Dc)) H):yC [] H K X:=by
 unfold yC;refine N8 ?_;exact(by kernel_rfl! : K (.lst (lO.map Dc)) H=D1 (eV 3) H (eA K) λC fs _ H=>X C fs H)▸h
section
variable{K:bj}{X:KX}{H G:List MO}{e:En}{k p:Nat}{x y:Int}{ks D:List Kd}{q:En}{n nm:Nat}{b:Bool}
inductive xJ (elt:EM O) (q:En) (G:List MO):List O->List O->Prop
 |nil:xJ elt q G [] []
 |cons {y z:O}{t u:List O}:Ev elt (some y::q) G z->xJ elt q G t u->xJ elt q G (y::t) (z::u)
theorem Er{f:EM O}:∀(t u acc:List O),acc.length+t.length<=100->(∀G,xJ f q G t u)->K (.lst (acc++u)) (H++[.dead])->og f [] q H.length (λG=>lZ H.length G K) X t (H++[.lst acc]):=by
 intro t;induction t with
 |nil =>
  intro u acc _ i h;cases i H;exact oI (a:=acc) (by rw[eG];rfl) (by rw[qG];exact VJ acc▸h)
 |cons y t l =>
  intro u acc j i h;cases u with
  |nil=>cases i H
  |cons z u =>
   refine(show Ev f (some y::q) (H++[MO.lst acc]) z from by cases i (H++[MO.lst acc]) with|cons a b=>exact a) _ _ (oI (a:=H++[.lst (acc++[z])]) ?_ ?_)
   .unfold pN;rw[eG];show gd (fits acc) (some ((H++[MO.lst acc]).set H.length (MO.lst (acc++[z]))))=_;rw[show fits acc=true from cC (LI (ajk _ _) (LI j (by decide))),qG];rfl
   .refine l u (acc++[z]) (by rw[LN];exact LI (ajS (ajH _ _)) j) (λG=>by cases i G with|cons a b=>exact b) ?_;rw[aa0];exact h
def t4(x:Int):Nat->List Kd
 |0=>[(k8 (md x 8)).1]
 |1=>[(k8 (md x 8)).1,(k8 (md (x.fdiv 8) 8)).1]
 |_=>[(k8 (md x 8)).1,(k8 (md (x.fdiv 8) 8)).1,(k8 (md (x.fdiv 64) 8)).1]
theorem vI{j:Nat}{z:Int}(a:tc (.int 8) (.int j) G=Y (.int (8 ^ j)))(f:fR (.int x) (.int (8 ^ j)) G=Y (.int z)):Ev aqa [Y (.int j),Y (.int x)] G (aP (k8 (md z 8)).1):=by
 have hi:=(fC (m:=8) (by decide) z).1;refine aV (v:=aP (k8 (md z 8)).1) (aV (v:=oJ (k8 (md z 8))) (jh (v:=.lst (K8.map oJ)) aw λK X k=>HU k) (aV (aV (U rfl) (aV (v:=.int (8 ^ j)) aq (U rfl) a) f) aq (gC (m:=8) (by decide))) (uW (Qm hi) (aj9 hi (by decide)) _)) aq rfl
theorem aat{a:EM O}(m:e[2]?=Y (Y (.int x)))(w:n < 3)(i:Ev a e H (.int (1+n)))(h:K (.lst ((t4 x n).map aP)) (H++[.dead])):jt (SrcR a) [2] aqa [] e H K X:=by
 have l:mZ [2] e=Y [Y (.int x)]:=by
  show((e[2]?).bind id).bind (λv=>Y [Y v])=_;rw[m];rfl
 have f:∀G,fR (.int x) (.int (8 ^ 0)) G=Y (.int x):=λG=>by
  show Y (O.int (x.fdiv 1))=_;rw[Int.fdiv_one]
 refine cast yi.symm (oI l (i _ _ ?_));revert h;revert i;revert w;revert n;exact@CA _ (λ_ h=>oI (a:=[.int 0]) rfl (Er _ _ [] (by decide) (λG=>.cons (vI (j:=0) rfl (f G)) .nil) h))
  (λ_ h=>oI (a:=[.int 0,.int 1]) rfl (Er _ _ [] (by decide) (λG=>.cons (vI (j:=0) rfl (f G)) (.cons (vI (j:=1) rfl rfl) .nil)) h))
  (λ_ h=>oI (a:=[.int 0,.int 1,.int 2]) rfl (Er _ _ [] (by decide) (λG=>.cons (vI (j:=0) rfl (f G)) (.cons (vI (j:=1) rfl rfl) (.cons (vI (j:=2) rfl rfl) .nil))) h))
end
section
variable{K:bj}{X:KX}{H G:List MO}{e:En}{a b:MO}{Kf:KF}{XE:KE}{C:SM}
noncomputable def Ag(u v:OW):List (Str×Int):=[(u.1.txt,0),(v.1.txt,1)]
def Γ2(nm:Nat):bV
 | .type=>[(Km.1.txt,0),(Kt.1.txt,1),(Kv.1.txt,2)].take nm
 | .func=>Ag Ko Kw
 | .table=>Ag Kn Kr
 | .memory=>[]
 | .global=>Ag Ks Kx
 | .elem=>Ag Kq Kz
 | .data=>Ag Ku Ky
def ku(a b:MO)(D:List O)(g:bV):List MO:=[a,b,.inst 770 [(iF,.ref 3),(oF,.ref 4),(eB,.ref 5)],.bD (PD 2),.bD (QR 0),.lst D,.bD (dA (g .type)),.bD (dA (g .func)),.bD (dA (g .table)),.bD (dA (g .memory)),.bD (dA (g .global)),.bD (dA (g .elem)),.bD (dA (g .data))]
theorem agQ(h:K (.ref 2) (ku a b [] λ_=>[])):AY [] [a,b] K X:=by
 unfold AY;rw[fU];show BA [.ref 2] [a,b,.inst 770 []] _ _;unfold BA;refine fun1 ?_;exact cast (by kernel_rfl!) h
def pU(h x2:Option O)(D:List O)(i j x8 l f:Option O):En:=[h,Y (.ref 0),x2,Y (.lst D),Y (.ref 2),Y (.ref 13),i,j,x8,l,f,LA,LA,LA,LA,LA,LA,LA,LA,LA,LA,LA,LA]
def Cz(C:SM):SM:=(ah aqd (ah ap4 C))
theorem adB(f x2:Option O)(d:O):Cz C (pU f x2 [d] LA LA LA LA LA) (ku a b [] (λ_=>[])++[.lst [d]]) Kf XE=C (pU f x2 [d] (Y (.int 0)) (Y d) (Y (.str gw)) (Y (.str tf)) (Y (.int 1))) (ku a b [d] (Γ2 1)++[.lst [d]]) Kf XE:=by kernel_rfl!
theorem adC(h x2:Option O)(d f:O):Cz C (pU h x2 [d,f] LA LA LA LA LA) (ku a b [] (λ_=>[])++[.lst [d,f]]) Kf XE=C (pU h x2 [d,f] (Y (.int 1)) (Y f) (Y (.str gw)) (Y (.str tf)) (Y (.int 1))) (ku a b [d,f] (Γ2 2)++[.lst [d,f]]) Kf XE:=by kernel_rfl!
theorem adD(h x2:Option O)(d f g:O):Cz C (pU h x2 [d,f,g] LA LA LA LA LA) (ku a b [] (λ_=>[])++[.lst [d,f,g]]) Kf XE=C (pU h x2 [d,f,g] (Y (.int 2)) (Y g) (Y (.str gw)) (Y (.str tf)) (Y (.int 1))) (ku a b [d,f,g] (Γ2 3)++[.lst [d,f,g]]) Kf XE:=by kernel_rfl!
theorem agP(D:List Kd)(nm:Nat)(l:List MO):dm (ku a b (D.map aP) (Γ2 nm)++l) 2 (Γ2 nm) D:=⟨rfl,rfl,⟨0,rfl⟩,rfl,λi=>by cases i<;>rfl⟩
end
section
variable{x y:Int}{ks:List Kd}{q κ:Kd}{n nm:Nat}{b:Bool}
structure tM (ks:List Kd) (o:On):Prop where
 wd:∃w r,o.1 = .w w::r/\r.length<=32
 td:(∃v,o.2.1=[v])∨∃u v,o.2.1=[u,v]
 ks:eU o.2.2/\ks.length<=o.2.2.length/\o.2.2.length<=ks.length+1
theorem Q2(h:eU ks){i:Nat}(hi:i < 8):eU (dU ks (k8 i).1).2/\ks.length<=(dU ks (k8 i).1).2.length/\(dU ks (k8 i).1).2.length<=ks.length+1:=by
 unfold dU;cases fg (k8 i).1 ks with
 |some n=>exact⟨h,LL _,ajq _⟩
 |none =>
  show eU (ks++[(k8 i).1])/\ks.length<=(ks++[(k8 i).1]).length/\(ks++[(k8 i).1]).length<=ks.length+1;rw[LN];exact⟨λq m=>(akm.mp m).elim (h q) λm=>⟨i,hi,aeq.mp m⟩,ajk _ _,LL _⟩
theorem xv(l:List TT):(bO l).length=l.length:=by
 induction l with
 |nil=>rfl
 |cons a r e=>exact congrArg (· + 1) e
theorem xx(a:eU ks)(e:0 < ks.length):(dk x ks nm b).1.length<=30/\eU (dk x ks nm b).2.2/\ks.length<=(dk x ks nm b).2.2.length/\(dk x ks nm b).2.2.length<=ks.length+1:=by
 refine⟨by rw[←xv];exact Jx a e,?_⟩;unfold dk;cases VE (md x 4) 2 with
 |true=>exact⟨a,LL _,ajq _⟩
 |false =>
  have hi:=(fC (m:=8) (by decide) (x.fdiv 4)).1;show eU (i7 _ _ _).2.2/\_;unfold i7;cases b&&mK (k8 (md (x.fdiv 4) 8)).1 with
  |true=>exact⟨a,LL _,ajq _⟩
  |false=>exact Q2 a hi
theorem CQ{P:On->Prop}(j:∀s y,s < 3->P (IB s (dk y ks nm W)))(h1:∀s y z,P (vb s [.w (cz 1 y)] (md y 3) (dk z ks nm LB)))(l:∀s z,P (vb s [] 0 (dk z ks nm LB)))(p:∀i y,i < 8->P ([.w (i5 i).1,.w (cz (i5 i).2.2 y)],[[(i5 i).2.1,md y 3]],ks))(h4:∀i,i < 5->P ([.w (gG i).1],[[(gG i).2,0]],ks))(A:∀i y,i < 5->P ([.w (gG i).1,.w (cz 1 y)],[[(gG i).2,md y 3]],ks))(B:P ([.w lu],[[64526,0,0]],ks))(C:∀y z,P ([.w lu,.w (cz 1 y),.w (cz 1 z)],[[64526,md y 3,md z 3]],ks))(D:∀y,P ([.w jw,.w (cz 3 y)],[[64524,md y 3,0]],ks))(E:∀y z,P ([.w jw,.w (cz 1 y),.w (cz 3 z)],[[64524,md z 3,md y 3]],ks)):P (fH x ks nm):=by
 have a {b:Bool}{u v:On}(G:P u) (e:P v):P (cond b u v):=by cases b with|true=>exact G|false=>exact e
 have f {u v:On}(e:P v):P (cond LB u v):=e;unfold fH fH.one8;refine bc (b:=VE (md x 8) 3) (λh=>?_) λh=>?_
 .rw[h];exact j _ _ (LQ h)
 .rw[h];exact f (a (a (h1 ..) (l ..)) (a (p _ _ (fC (m:=8) (by decide) _).1) (a (a (h4 _ (fC (m:=5) (by decide) _).1) (A _ _ (fC (m:=5) (by decide) _).1)) (a (a B (C ..)) (a (D ..) (E ..))))))
theorem CR(f:eU ks)(j:0 < ks.length):tM ks (fH x ks nm) :=
 have same:eU ks/\ks.length<=ks.length/\ks.length<=ks.length+1:=⟨f,LL _,ajq _⟩;have l:∀{a:Nat},a<=3->a<=32:=λh=>LI h (by decide);have e {w:OW}{r:List TT}{v:List Int}(h:r.length<=3):tM ks (.w w::r,[v],ks):=⟨⟨_,_,rfl,l h⟩,.inl ⟨_,rfl⟩,same⟩
 CQ (λs y _=>⟨⟨_,_,rfl,LI (xx f j).1 (by decide)⟩,.inr ⟨_,_,rfl⟩,(xx f j).2⟩)
  (λs y z=>⟨⟨_,_,rfl,by
   show([TT.w _]++_).length<=32;rw[LN];exact LI (ajh (xx f j).1 1) (by decide)⟩,.inl ⟨_,rfl⟩,(xx f j).2⟩)
  (λs z=>⟨⟨_,_,rfl,LI (xx f j).1 (by decide)⟩,.inl ⟨_,rfl⟩,(xx f j).2⟩)
  (λi y _=>e (LQ rfl)) (λi _=>e (aeN _)) (λi y _=>e (LQ rfl)) (e (aeN _)) (λy z=>e (LQ rfl)) (λy=>e (LQ rfl)) λy z=>e (LQ rfl)
def sO:List TT->Bool
 | .w o::_=>o.1.txt == fP
 |_=>LB
def u0:List (List Int)->Bool
 | []=>LB
 | [v]=>jr v [11]
 |_::v::_=>jr v [11]
def i8(x:Int)(o:On):List TT:=cond (LK (md x 2) 1) [.l (o.1++cond (sO o.1) [.l [.w W2]] [])] (cond (u0 o.2.1) (o.1++[.w W1]) o.1)
def gW(is:List Int)(nm:Nat):Nat->Nat->List TT->List (List Int)->List Kd->List TT×List (List Int)×List Kd
 |0,_,a,bd,ks=>(a,bd,ks)
 |m+1,n,a,bd,ks=>gW is nm m (n+1) (a++i8 (b9 is n) (fH ((b9 is n).fdiv 2) ks nm)) (bd++(fH ((b9 is n).fdiv 2) ks nm).2.1) (fH ((b9 is n).fdiv 2) ks nm).2.2
theorem JC{o:On}(h:tM ks o):(i8 x o).length<=34:=by
 refine h.wd.elim λw z=>z.elim λr e=>?_;have a:o.1.length<=33:=by rw[e.1];exact VT e.2
 unfold i8;cases LK (md x 2) 1
 .cases u0 o.2.1
  .exact LI a (by decide)
  .show(o.1++[TT.w W1]).length<=34;rw[LN];exact VT a
 .exact LQ rfl
theorem Dj{o:On}(h:tM ks o):o.2.1.length<=2:=by
 rcases h.td with ⟨v,e⟩|⟨u,v,e⟩<;>rw[e]
 .exact LQ rfl
 .exact LL _
end
section
variable{K:bj}{X:KX}{H G:List MO}{is:List Int}{D ks:List Kd}{n:Nat}{tx:List TT}{bd:List (List Int)}{x0 x2 x6 x7 x8 x9 x10 x13 x14 x15:Option O}{KQ:KF}{XE:KE}
structure TI (is:List Int) (D:List Kd) (n:Nat) (ks:List Kd) (tx:List TT) (bd:List (List Int)) (H:List MO):Prop where
 w5:H[0]?=Y (gE is n)
 sp:dm H 2 (Γ2 D.length) D
 wx:H[13]?=Y (.lst (ks.map aP))
 tx:H[14]?=Y (.lst (bO tx))
 bd:H[15]?=Y (.lst (fB bd))
def kQ(x0:Option O)(D:List Kd)(x6 x7 x8 x9 x10 x2 x13 x14 x15:Option O):En:=[x0,Y (.ref 0),x2,Y (.lst (D.map aP)),Y (.ref 2),Y (.ref 13),x6,x7,x8,x9,x10,Y (.ref 14),Y (.ref 15),x13,x14,x15,LA,LA,LA,LA,LA,LA,LA]
def Jr:SM:=aqX
theorem TI.up(T:TI is D n ks tx bd H)(u:Up [13] H G)(a:G[13]?=Y (.lst (ks'.map aP))):TI is D n ks' tx bd G :=⟨u _ _ T.w5 rfl,T.sp.up u (by decide),a,u _ _ T.tx rfl,u _ _ T.bd rfl⟩
theorem UM(l:List Int):aX (.tup (iA l)) (.tup [.int 11]) H=Y (jr l [11]):=by
 unfold aX;rw[show(iG (.tup (iA l)) (.tup [.int 11]) λa b=>Y (a == b))=LA from rfl,show((aS (.tup (iA l))).bind λx=>(aS (.tup [.int 11])).bind λy=>Y (x == y))=LA from rfl,show oO (.tup (iA l)) (.tup [.int 11]) H=LA from rfl];show kj _ _ _=_;unfold kj;rw[show toPy H cM (.tup (iA l))=Y (.tuple (l.map .int)) by show(eQ (toPy H 49) (iA l)).map ajU=_;rw[zM 48];rfl];show gd (df cM (.tuple (l.map .int))&&W) (Y (ahT (l.map .int) ([11].map .int)))=_;rw[show df cM (.tuple (l.map .int))=W from u9 48 l,t9];rfl
theorem Qu{o:On}(h:tM ks o):Ev aq5 (kQ x0 D x6 x7 x8 x9 x10 x2 x13 x14 (Y (.lst (fB o.2.1)))) H (u0 o.2.1):=by
 rcases h.td with ⟨v,e⟩|⟨u,v,e⟩<;>rw[e]
 .exact bq (aV (v:=.tup (iA v)) (U rfl) (rj aq rfl) rfl) (cA (ai aq aw) rfl) (UM v)
 .exact bq (aV (v:=.tup (iA v)) (U rfl) (rj aq rfl) rfl) (cA (ai aq aw) rfl) (UM v)
theorem Jl(a b:List TT):bO (a++b)=bO a++bO b:=by
 induction a with
 |nil=>rfl
 |cons x r e=>exact congrArg (qN x :: ·) e
theorem Ms(a b:List (List Int)):fB (a++b)=fB a++fB b:=ajG
theorem acA{w:OW}{r:List TT}{e:En}(he:e[14]?=Y (Y (.lst (bO (.w w::r))))):Ev aqY e H (.lst (bO (cond (w.1.txt == fP) [.l [.w W2]] []))):=by
 refine vM (Be (v:=.lst (bO [.l [.w W2]])) (w:=.lst []) (bq (aV (v:=.str w.1.txt) (U he) aq (uW (n:=0) rfl (by decide) _)) aq (wK rfl)) (λ_=>dS (ai (dS (ai aq aw) rfl) aw) rfl) λ_=>dS aw rfl) ?_;cases w.1.txt == fP<;>rfl
theorem ahQ{o:On}{e:En}{C:SM}{KQ:KF}{XE:KE}{x:Int}(h:tM ks o)(i:e[2]?=Y (Y (.int x)))(he:e=kQ x0 D x6 x7 x8 x9 x10 (Y (.int x)) x13 (Y (.lst (bO o.1))) (Y (.lst (fB o.2.1))))(k:C (kQ x0 D x6 x7 x8 x9 x10 (Y (.int x)) x13 (Y (.lst (bO (i8 x o)))) (Y (.lst (fB o.2.1)))) H KQ XE): ah apZ C e H KQ XE:=by
 subst he;have t:Ev (aC aX (ao eX aD (aj 2)) (aj 1)) (kQ x0 D x6 x7 x8 x9 x10 (Y (.int x)) x13 (Y (.lst (bO o.1))) (Y (.lst (fB o.2.1)))) H (LK (md x 2) 1):=bq (aV (U rfl) aq (gC (m:=2) (by decide))) aq (wJ _ 1);refine h.wd.elim λw z=>z.elim λr e=>?_;have f:o.1.length<=33:=by rw[e.1];exact VT e.2
 unfold i8 at k;refine bc (b:=LK (md x 2) 1) (λhb=>?_) λhb=>?_
 .rw[hb]at t k;refine ct t (eS (v:=.lst (bO [TT.l (o.1++cond (sO o.1) [TT.l [TT.w W2]] [])])) (dS (ai (x:=.lst (bO (o.1++cond (sO o.1) [TT.l [TT.w W2]] []))) (aV (U rfl) (acA (w:=w) (r:=r) (by rw[←e.1];rfl)) ?_) aw) rfl) k);rw[Jl,e.1];refine tX (LI (alJ (show(bO (TT.w w::r)).length<=33 by rw[xv];exact VT e.2) (show _<=1 from ?_)) (show 33+1<=1000 by decide));cases w.1.txt == fP
  .exact aeN _
  .exact LL _
 .rw[hb]at t k;refine zX t ?_;refine bc (b:=u0 o.2.1) (λa=>?_) λa=>?_
  .rw[a]at k;refine ct (vM (Qu h) a) (eS (v:=.lst (bO (o.1++[TT.w W1]))) (aV (U rfl) (dS (ai aq aw) rfl) ?_) k);rw[Jl];exact tX (LI (alp (show(bO o.1).length<=33 by rw[xv];exact f) 1) (show 33+1<=1000 by decide))
  .rw[a]at k;exact cu (vM (Qu h) a) k
noncomputable abbrev s7(is:List Int)(D:List Kd)(n:Nat)(ks:List Kd):On:=fH ((b9 is n).fdiv 2) ks D.length
theorem TI.pn(T:TI is D n ks tx bd H)(m:Nat):TI is D m ks tx bd (H.set 0 (gE is m)) :=
 have u:Up [0] H (H.set 0 (gE is m)):=Up.r.set rfl
 ⟨dW T.w5 _,T.sp.up u (by decide),u _ _ T.wx rfl,u _ _ T.tx rfl,u _ _ T.bd rfl⟩
theorem TI.sb(T:TI is D n ks tx bd H)(b:List (List Int)):TI is D n ks tx b (H.set 15 (.lst (fB b))) :=
 have u:Up [15] H (H.set 15 (.lst (fB b))):=Up.r.set rfl
 ⟨u _ _ T.w5 rfl,T.sp.up u (by decide),u _ _ T.wx rfl,u _ _ T.tx rfl,dW T.bd _⟩
theorem TI.st(T:TI is D n ks tx bd H)(t:List TT):TI is D n ks t bd (H.set 14 (.lst (bO t))) :=
 have u:Up [14] H (H.set 14 (.lst (bO t))):=Up.r.set rfl
 ⟨u _ _ T.w5 rfl,T.sp.up u (by decide),u _ _ T.wx rfl,dW T.tx _,u _ _ T.bd rfl⟩
theorem NQ{a o:EM O}{e:En}{j:Nat}{xs ys:List O}{F:List MO->Prop}(b:H[j]?=Y (.lst xs))(l:Ev o e H (.ref j))(f:Ev a e H (.lst ys))(i:xs.length+ys.length<=1000)(h:F (H.set j (.lst (xs++ys)))):aH lN [] o [a] e H (λ_ G=>F G) X :=ir l (ie b) vX (kK (xs:=[.lst ys]) (ai f aw) (oI (xW b (ys:=ys) rfl (cC (by rw[LN];exact LI i (by decide)))) h))
theorem D4(b:List (List Int)):(fB b).length=b.length:=QC ..
theorem ahl(T:TI is D n ks tx bd H)(y:is.length<=63)(i:eU ks)(l:0 < ks.length)(w:ks.length<=8)(j:D.length<=3)(lt:tx.length<=400)(A:bd.length<=100)(k:∀G x2 x14 x15,TI is D (n+1) (s7 is D n ks).2.2 (tx++i8 (b9 is n) (s7 is D n ks)) (bd++(s7 is D n ks).2.1) G->KQ .next (kQ x0 D x6 x7 x8 x9 x10 x2 x13 x14 x15) G):Jr (kQ x0 D x6 x7 x8 x9 x10 x2 x13 x14 x15) H KQ XE:=by
 have os:=CR (x:=(b9 is n).fdiv 2) (nm:=D.length) i l;have e:=T.pn (n+1);refine fK (d7 (ai (U rfl) aw) (CG (n:=n) T.w5 y ?_));show ah _ _ (kQ x0 D x6 x7 x8 x9 x10 (Y (.int (b9 is n))) x13 x14 x15) (H.set 0 (gE is (n+1))) _ _;generalize H.set 0 (gE is (n+1))=m at e ⊢;have z:iZ (.lst (D.map aP)) m=Y (.int D.length):=by
  show alt (gd (fits (D.map aP)) (Y (O.int (D.map aP).length))) _=_;rw[zl,show fits (D.map aP)=W from cC (by rw[zl];exact LI j (by decide))];rfl
 refine iL (d7 (xs:=[.int ((b9 is n).fdiv 2),.ref 13,.int D.length]) (ai (aV (U rfl) aq rfl) (ai (U rfl) (ai (dy (U rfl) z) aw))) (aew e.wx i l w j λG u p=>?_));have f:=e.up u p;refine oI (a:=kQ x0 D x6 x7 x8 x9 x10 (Y (.int (b9 is n))) x13 (Y (.lst (bO (s7 is D n ks).1))) (Y (.lst (fB (s7 is D n ks).2.1)))) rfl ?_;refine fL (NQ f.bd (U rfl) (U rfl) (by rw[D4,D4];exact LI (alJ A (Dj os)) (by decide)) ?_);have b:=f.sb (bd++(s7 is D n ks).2.1);rw[Ms]at b;refine ahQ os rfl rfl ?_;generalize G.set 15 (.lst (fB bd++fB (s7 is D n ks).2.1))=F at b ⊢;refine NQ b.tx (U rfl) (U rfl) (by rw[xv,xv];exact LI (alJ lt (JC os)) (by decide)) ?_;have h:=b.st (tx++i8 (b9 is n) (s7 is D n ks));rw[Jl]at h;exact k _ _ _ _ h
end
section
variable{K:bj}{X:KX}{G:List MO}{is:List Int}{D:List Kd}{x0 x6 x7 x8 x9 x10:Option O}{KQ:KF}{XE:KE}
theorem ahm(L:is.length<=63)(E:D.length<=3):∀(l:List O) (n:Nat) (ks:List Kd) (i:List TT) (bd:List (List Int)) (x2 f b e:Option O) (H:List MO),TI is D n ks i bd H->eU ks->0 < ks.length->ks.length+l.length<=8->i.length+34 * l.length<=400->bd.length+2 * l.length<=100 -> (∀G x2 f b e,TI is D (n+l.length) (gW is D.length l.length n i bd ks).2.2 (gW is D.length l.length n i bd ks).1 (gW is D.length l.length n i bd ks).2.1 G->KQ .next (kQ x0 D x6 x7 x8 x9 x10 x2 f b e) G)-> forL (.nm 13) Jr KQ XE l (kQ x0 D x6 x7 x8 x9 x10 x2 f b e) H:=by
 intro l;induction l with
 |nil=>exactλn ks i bd x2 f b e H T _ _ _ _ _ h=>N3 (h H x2 f b e T)
 |cons a r M =>
  intro n ks i bd x2 f b e H T A j I lt N h;simp only[VN]at I lt N;refine N2 (e':=kQ x0 D x6 x7 x8 x9 x10 x2 (Y a) b e) rfl ?_;have os:=CR (x:=(b9 is n).fdiv 2) (nm:=D.length) A j;refine ahl T L A j (by omega) E (by omega) (by omega) λG Q m p B=>?_;have Z:=JC (x:=b9 is n) os;have w2:=Dj os;refine M (n+1) _ _ _ Q (Y a) m p G B os.ks.1 (LR j os.ks.2.1) ?_ ?_ ?_ λF S w y z C=>?_
  .have:=os.ks.2.2;show(fH ((b9 is n).fdiv 2) ks D.length).2.2.length+_<=8;omega
  .rw[LN];show i.length+(i8 (b9 is n) (fH ((b9 is n).fdiv 2) ks D.length)).length+_<=400;omega
  .rw[LN];show bd.length+(fH ((b9 is n).fdiv 2) ks D.length).2.1.length+_<=100;omega
  .refine h F S w y z ?_;rw[show n+(a::r).length=n+1+r.length from by rw[VN];omega];exact C
end
section
variable{P R t:List Itm}{Γ:bV}{ks ks2:List Kd}{α β:Type}{x:Res α}{f:α->Res β}{v:β}{b:Bool}{p:Prop}{it:Itm}{q:Str}
structure dM (R:List Itm):Prop where
 hd:∀it r,R=it::r->(eJ it == cZ)=LB/\(eJ it == eC)=LB/\(eJ it == dN)=LB
 ix:du R=LB
theorem D8{x y:List Itm}:gN q (it::x)=gN q (it::y):=by cases it<;>rfl
theorem D9(h:∀it r,R=it::r->(eJ it == q)=LB):gN q R=LB:=by
 cases R with
 |nil=>rfl
 |cons it r=>cases it with
  |tok=>rfl
  |br is r1 a=>exact h _ _ rfl
theorem mT(h:x.bind f = .ok v)(k:∀a,x = .ok a->f a = .ok v->p):p:=by
 cases x with
 |ok a=>exact k a rfl h
 |stuck=>cases h
 |bad=>cases h
 |left=>cases h
theorem yK{x:Res α}{v:α}(h:gk b x = .ok v)(k:b=W->x = .ok v->p):p:=by
 cases b with
 |true=>exact k rfl h
 |false=>cases h
theorem kh{a v:α}(h:Res.ok a = .ok v):a=v:=by cases h;rfl
theorem mU{a:α}(h:x = .ok a):x.bind f=f a:=by rw[h];rfl
theorem BS(h:b=W){x:Res α}:gk b x=x:=by rw[h];rfl
theorem oh{a c d a' c':α}{P:Prop}(h:cond b a c=d)(e:b=W->a=d->cond b a' c'=a'->P)(k2:b=LB->c=d->cond b a' c'=c'->P):P:=by
 cases b with
 |true=>exact e rfl h rfl
 |false=>exact k2 rfl h rfl
theorem cf{a c:α}(h:b=LB):cond b a c=c:=by rw[h];rfl
theorem agp{e:List Int}{a:List (Str×O)}(h:gN eC R=LB):pB e a R = .ok (e,a,R):=by
 cases R with
 |nil=>rfl
 |cons it r=>exact cf h
theorem agr{rs:List Int}(h:gN dN R=LB):kq rs R = .ok (rs,R):=by
 cases R with
 |nil=>rfl
 |cons it r=>exact cf h
theorem ago(s:dM R):∀(P:List Itm) (i:List Int) (a:List (Str×O)) {v:List Int×List (Str×O)×List Itm},pB i a P = .ok v->pB i a (P++R)= .ok (v.1,v.2.1,v.2.2++R):=by
 intro P;induction P with
 |nil=>exactλi a v h=>kh h▸(agp (D9 λit r e=>(s.hd it r e).2.1))
 |cons it r j =>
  intro i a v h;show cond (gN eC (it::(r++R))) ((wt a i.length it).bind λq=>gk (bf (i++q.1) 1000) (pB (i++q.1) q.2 (r++R))) (.ok (i,a,it::(r++R)))=_;rw[D8 (y:=r)];exact oh (a':=(wt a i.length it).bind λq=>gk (bf (i++q.1) 1000) (pB (i++q.1) q.2 (r++R))) (c':=.ok (i,a,it::(r++R))) h (λ_ h e=>e.trans (mT h λq e1 h=>yK h λe2 h=>(mU e1).trans ((BS e2).trans (j _ _ h)))) λ_ h e=>e.trans (kh h▸rfl)
theorem agq(s:dM R):∀(P:List Itm) (rs:List Int) {v:List Int×List Itm},kq rs P = .ok v->kq rs (P++R)= .ok (v.1,v.2++R):=by
 intro P;induction P with
 |nil=>exactλrs v h=>kh h▸(agr (D9 λit r e=>(s.hd it r e).2.2))
 |cons it r a =>
  intro rs v h;show cond (gN dN (it::(r++R))) ((qq it).bind λks=>gk (bf (rs++ks) 1000) (kq (rs++ks) (r++R))) (.ok (rs,it::(r++R)))=_;rw[D8 (y:=r)];exact oh (a':=(qq it).bind λks=>gk (bf (rs++ks) 1000) (kq (rs++ks) (r++R))) (c':=.ok (rs,it::(r++R))) h (λ_ h e=>e.trans (mT h λq e1 h=>yK h λe2 h=>(mU e1).trans ((BS e2).trans (a _ h)))) λ_ h e=>e.trans (kh h▸rfl)
theorem ags(s:dM R){v:(List Int×List Int)×List (Str×O)×List Itm}(h:pD P = .ok v):pD (P++R)= .ok (v.1,v.2.1,v.2.2++R) :=mT h λq e1 h=>mT h λu e2 h=>(mU (ago s P [] [] e1)).trans ((mU (agq s q.2.2 [] e2)).trans (kh h▸rfl))
theorem ahr(s:dM R){v:Option Int×List Itm}(h:vp Γ P = .ok v):vp Γ (P++R)= .ok (v.1,v.2++R):=by
 unfold vp at h ⊢;cases P with
 |nil=>exact kh h▸(cf (D9 λit r e=>(s.hd it r e).1))
 |cons it r =>
  rw[show it::r++R=it::(r++R) from rfl,D8 (y:=r)];cases hb:gN cZ (it::r) with
  |false=>rw[hb]at h;exact kh h▸rfl
  |true =>
   rw[hb]at h;cases it with
   |tok=>cases hb
   |br is r1 j=>cases is with
    |nil=>cases h
    |cons x is=>cases is with
     |nil=>cases h
     |cons y is=>cases y with
      |br=>cases h
      |tok w i a =>
       refine mT (x:=fY Γ .type w.1 i a) h λm e1 h=>(mU (x:=fY Γ .type w.1 i a) e1).trans ?_;cases is with
       |nil=>exact kh h▸rfl
       |cons=>cases h
theorem ZN{n:Int}{q:Kd}{r c j c':Nat}{v:Unit}(h:kO ks n q r c = .ok v):kO ks n q j c' = .ok v:=by
 unfold kO at h ⊢;refine oh h (λ_ h e=>e.trans h) λ_ h e=>e.trans (oh h (λ_ h e=>?_) λ_ h e=>e.trans ?_)
 .cases i:toStr n with
  |none=>rw[i]at h;cases h
  |some z=>rw[i]at h;exact yK h λ_ h=>nomatch h
 .cases n with
  |negSucc=>cases h
  |ofNat m =>
   dsimp only at h ⊢;cases a:ks[m]? with
   |none=>rw[a]at h;cases h
   |some k2=>rw[a]at h;exact oh h (λ_ h e=>e.trans h) λ_ h e=>nomatch h
theorem ahi(s:dM R){v:Int×List (Str×O)×List Itm×List Kd}(h:vn Γ ks P = .ok v):vn Γ ks (P++R)= .ok (v.1,v.2.1,v.2.2.1++R,v.2.2.2) :=
 mT h λu e1 h=>(mU (ahr s e1)).trans (mT h λq e2 h=>(mU (ags s e2)).trans (by
  obtain⟨m,e⟩:=u;cases m with
  |none=>exact kh h▸rfl
  |some m=>exact mT h λp a h=>(mU (ZN a)).trans (kh h▸rfl)))
theorem Jn(s:dM R){v:Tt}(h:gp Γ ks P = .ok v)(a:v.2.2.2=LA):gp Γ ks (P++R)= .ok (v.1,v.2.1++R,v.2.2.1,LA) :=
 mT h λu e1 h=>yK h λe2 h=>(mU (ahi s e1)).trans ((BS e2).trans (oh h (λ_ h e=>by
  cases P with
  |nil=>exact nomatch h
  |cons=>exact fZ ((congrArg (λq:Tt=>q.2.2.2) (kh h)).trans a)) λ_ h e=>e.trans (kh h▸rfl)))
theorem Zm(s:dM R):∀(P:List Itm) (acc:List Int) (f p r:Bool) {v:List Int×Bool×List Itm},jA acc f p r P = .ok v->jA acc f p r (P++R)= .ok (v.1,v.2.1,v.2.2++R):=by
 intro P;induction P with
 |nil =>
  refineλacc f p r v h=>kh h ▸ ?_
  show jA acc f p r R=_;cases R with
  |nil=>rfl
  |cons it u =>
   have z:=s.hd _ _ rfl;exact(cf z.2.2).trans ((cf (by rw[z.1];rfl)).trans (cf (by rw[z.2.1];rfl)))
 |cons it u a =>
  exactλacc f p r v h=>oh h (λ_ h e=>e.trans (mT h λq e1 h=>yK h λe2 h=>(mU e1).trans ((BS e2).trans (a _ _ _ _ h)))) λ_ h e=>e.trans (oh h (λ_ h e=>e.trans (a _ _ _ _ h)) λ_ h e=>e.trans (oh h (λ_ h e=>e.trans (a _ _ _ _ h)) λ_ h e=>e.trans (kh h▸rfl)))
theorem Zn(s:dM R){v:Tt}(h:kL Γ ks P = .ok v)(a:v.2.2.2=LA):kL Γ ks (P++R)= .ok (v.1,v.2.1++R,v.2.2.1,LA) :=mT h λu e1 h=>(mU (Zm s P _ _ _ _ e1)).trans (oh h (λ_ h e=>e.trans (kh h▸rfl)) λ_ h e=>e.trans (Jn s h a))
end
section
variable{ks kr k2 kr2:List Kd}{q κ:Kd}{Γ:bV}{nm n:Nat}{x y:Int}{i:iQ}{r c:Nat}
theorem HK:∀(a b:List TT) (n:Nat),(aN n (a++b)).1=(aN n a).1++(aN (aN n a).2 b).1/\(aN n (a++b)).2=(aN (aN n a).2 b).2:=by
 intro a b;induction a with
 |nil=>exactλn=>⟨rfl,rfl⟩
 |cons t a e=>exactλn=>⟨congrArg (_ :: ·) (e _).1,(e _).2⟩
def Jk(kr ks k2 kr2:List Kd):Prop:=(kr=ks/\kr2=k2)∨(kr2=kr/\∃z,kr=k2++z)
theorem abB(b:List Kd):∀{a:List Kd}{n:Nat},fg q a=Y n->fg q (a++b)=Y n:=by
 intro a;induction a with
 |nil=>intro n h;cases h
 |cons t a j =>
  intro n h;have h:cond (cV t q) (Y 0) ((fg q a).map λn=>n+1)=Y n:=h;show cond (cV t q) (Y 0) ((fg q (a++b)).map λn=>n+1)=Y n;cases e:cV t q with
  |true=>rw[e]at h;exact h
  |false =>
   rw[e]at h;cases f:fg q a with
   |none=>rw[f]at h;cases h
   |some m=>rw[j f];rw[f]at h;exact h
theorem Jk.ki(j:Jk kr ks (dU ks q).2 kr2)(hq:cV q q=W):dU kr q=((dU ks q).1,kr2):=by
 rcases j with ⟨e1,e2⟩|⟨e1,z,e2⟩
 .rw[e1,e2]
 .have:fg q kr=Y (dU ks q).1:=by
   rw[e2];refine abB z ?_;unfold dU;cases f:fg q ks with
   |some m=>exact f
   |none=>exact NZ f hq
  rw[e1];show(match fg q kr with|some n=>(n,kr)|none=>(kr.length,kr++[q]))=_;rw[this]
theorem Jk.same(j:Jk kr ks ks kr2):kr2=kr:=by
 rcases j with ⟨e1,e2⟩|⟨e1,_⟩
 .rw[e1,e2]
 .exact e1
theorem Jk.at(j:Jk kr ks ks kr2)(h:ks[n]?=Y κ):kr[n]?=Y κ:=by
 rcases j with ⟨e1,e2⟩|⟨e1,z,e2⟩
 .rw[e1,h]
 .rw[e2,ajA (Sa.mp h).1,h]
theorem Rt(a:n < 8):fY Γ i (qx n).1 r c = .ok n :=by revert n;apply gM;kernel_rfl!
theorem ahv:((agL 4).all λnm=>(agL nm).all λn=>match look (tW n).1.txt (Γ2 nm .type) with|some v=>v == (n:Int)|none=>LB)=W:=by kernel_rfl!
theorem aht:∀n,n < 3->eD (tW n).1.sort=W:=by apply gM;kernel_rfl!
theorem ahw(f:n < 8)(hm:nm<=3):fY (Γ2 nm) .type (lg nm n y).1 r c = .ok n:=by
 unfold lg;cases e:LK (md (y.fdiv 8) 2) 0&&VE n nm with
 |false=>exact Rt f
 |true =>
  have lt:n < nm:=aY e λ_ b=>LQ b;have:=UA.mp (UA.mp ahv nm (aeM.mpr (al0 hm))) n (aeM.mpr lt);show cond (eD (tW n).1.sort) _ _=_;rw[aht n (LR lt hm)];show(match look (tW n).1.txt (Γ2 nm .type) with|some v=>Res.ok v|none=>_)=_;cases a:look (tW n).1.txt (Γ2 nm .type) with
  |none=>rw[a]at this;cases this
  |some v=>rw[a]at this;exact congrArg Res.ok (eq_of_beq this)
noncomputable def jX(l:Nat):iQ:=match l with|0=>.func|1=>.table|2=>.global|3=>.elem|_=>.data
theorem kf{l:Nat}(e:l < 5):fY (Γ2 nm) (jX l) (cz l y).1 r c = .ok (md y 3):=by
 unfold cz;cases a:zC y with
 |false=>exact Rt (aj9 (fC (m:=3) (by decide) y).1 (by decide))
 |true =>
  exact DO (f:=λl n=>fY (Γ2 nm) (jX l) (za l n).1 r c) (g:=λ_ n=>.ok n) (by kernel_rfl!) l e _ (aY a λ_ b=>LQ b)
theorem Te:∀i,i < 8->∀n,pD (aN n (k8 i).2).1 = .ok ((k8 i).1,[],[]) :=λi hi n=>by revert i;apply gM;kernel_rfl!
theorem DM:∀i,i < 8->jz (k8 i).1=(k8 i).2 :=by apply gM;kernel_rfl!
theorem Zo:∀i,i < 8->∀n,jA [] LB W LB (aN n (k8 i).2).1 = .ok ((k8 i).1.2,W,[]) :=λi hi n=>by revert i;apply gM;kernel_rfl!
theorem Y6:∀i,i < 8->∀n,jA [] W LB LB (aN n (k8 i).2).1 = .ok ((k8 i).1.2,(match (k8 i).1.1 with | []=>LB|_::_=>W),[]) :=λi hi n=>by revert i;apply gM;kernel_rfl!
theorem ahs:∀i,i < 8->∀n,vp Γ (aN n (k8 i).2).1 = .ok (LA,(aN n (k8 i).2).1) :=λi hi n=>by revert i;apply gM;kernel_rfl!
theorem agC:∀i,i < 8->mK (k8 i).1=(b6 (match (k8 i).1.1 with | []=>LB|_::_=>W)&&bf (k8 i).1.2 1) :=by apply gM;kernel_rfl!
theorem ahx{w:OW}{l:List TT}:vp Γ (aN n (vo w l)).1=(fY Γ .type w.1 1 (n+1+1+1)).bind λv=>.ok (Y v,(aN (n+1+1+1) l).1):=by kernel_rfl!
theorem Zp{w:OW}{l:List TT}:jA [] W LB LB (aN n (vo w l)).1=jA [] LB W LB (aN (n+1+1+1) l).1:=by kernel_rfl!
theorem ZO{m:Nat}{a:Kd}(h:kr[m]?=Y κ)(b:cV κ a=W):kO kr m a r c = .ok ():=by
 unfold kO;cases cV a ([],[]) with
 |true=>rfl
 |false =>
  have lt:=(Sa.mp h).1;rw[show decide ((kr.length:Int)<=(m:Int))=LB from aer λz=>absurd (apx.mp z) (aoC lt)];show(match kr[m]? with|some k2=>cond (cV k2 a) (.ok ()) (.bad nO r c)|none=>.stuck:Res Unit)= .ok ();rw[h];show cond (cV κ a) _ _=_;rw[b];rfl
theorem Uk{w:Nat}(hi:∃i,i < 8/\κ=(k8 i).1)(p:kr[n]?=Y κ)(z:n < 8)(hm:nm<=3){m:Nat}: gp (Γ2 nm) kr (aN m (vo (lg nm n y) (cond (LK w 1) (jz κ) []))).1 = .ok (n,[],kr,LA)/\kL (Γ2 nm) kr (aN m (vo (lg nm n y) (cond (LK w 1) (jz κ) []))).1 = .ok (n,[],kr,LA):=by
 obtain⟨i,f,rfl⟩:=hi;have hq:cV (k8 i).1 (k8 i).1=W:=UA.mp HN i (aeM.mpr f);have hb:∃a,jA [] LB W LB (aN (m+1+1+1) (cond (LK w 1) (jz (k8 i).1) [])).1 = .ok (a,W,[]):=by
  rw[DM i f];cases LK w 1
  .exact⟨_,rfl⟩
  .exact⟨_,Zo i f _⟩
 have l:∃b,pD (aN (m+1+1+1) (cond (LK w 1) (jz (k8 i).1) [])).1 = .ok (b,[],[])/\kO kr n b (rT (aN m (vo (lg nm n y) (cond (LK w 1) (jz (k8 i).1) []))).1) (AX (aN m (vo (lg nm n y) (cond (LK w 1) (jz (k8 i).1) []))).1)= .ok ():=by
  rw[DM i f];cases LK w 1
  .exact⟨_,rfl,rfl⟩
  .exact⟨_,Te i f _,ZO p hq⟩
 have t:gp (Γ2 nm) kr (aN m (vo (lg nm n y) (cond (LK w 1) (jz (k8 i).1) []))).1 = .ok (n,[],kr,LA):=by
  obtain⟨b,h,j⟩:=l;unfold gp vn;rw[ahx,ahw z hm];show Res.bind (Res.bind (pD _) _) _=_;rw[h];show Res.bind (Res.bind (kO _ _ _ _ _) _) _=_;rw[j];rfl
 refine⟨t,?_⟩;obtain⟨a,e⟩:=hb;unfold kL;rw[Zp,e];exact t
theorem Ul{i:Nat}(hi:i < 8)(j:Jk kr ks (dU ks (k8 i).1).2 kr2){m:Nat}:gp Γ kr (aN m (k8 i).2).1 = .ok ((dU ks (k8 i).1).1,[],kr2,LA):=by
 have hq:cV (k8 i).1 (k8 i).1=W:=UA.mp HN i (aeM.mpr hi);unfold gp vn;rw[ahs i hi];show Res.bind (Res.bind (pD _) _) _=_;rw[Te i hi];show Res.bind (Res.ok (((dU kr (k8 i).1).1:Int),_,_,(dU kr (k8 i).1).2)) _=_;rw[j.ki hq];rfl
theorem Um(e:eU ks)(h:0 < ks.length)(f:ks.length<=8)(hm:nm<=3)(j:Jk kr ks (dk x ks nm LB).2.2 kr2){m:Nat}:gp (Γ2 nm) kr (aN m (dk x ks nm LB).1).1 = .ok ((dk x ks nm LB).2.1,[],kr2,LA):=by
 unfold dk at j ⊢;cases hb:VE (md x 4) 2 with
 |true =>
  rw[hb]at j;have j:Jk kr ks ks kr2:=j;have a:=(fC h (x.fdiv 4)).1;have b:=WB a;rw[j.same];show gp (Γ2 nm) kr (aN m (lQ _ _ _ _ _).1).1=_;unfold lQ;rw[b];exact(Uk (e _ (ajO a)) (j.at b) (LR a f) hm).1
 |false =>
  rw[hb]at j;exact Ul (fC (m:=8) (by decide) (x.fdiv 4)).1 j
theorem ahD(h:eU ks)(p:0 < ks.length)(l:ks.length<=8)(hm:nm<=3)(j:Jk kr ks (dk x ks nm W).2.2 kr2){m:Nat}:kL (Γ2 nm) kr (aN m (dk x ks nm W).1).1 = .ok ((dk x ks nm W).2.1,[],kr2,LA):=by
 unfold dk at j ⊢;cases hb:VE (md x 4) 2 with
 |true =>
  rw[hb]at j;have j:Jk kr ks ks kr2:=j;have a:=(fC p (x.fdiv 4)).1;have b:=WB a;rw[j.same];show kL (Γ2 nm) kr (aN m (lQ _ _ _ _ _).1).1=_;unfold lQ;rw[b];exact(Uk (h _ (ajO a)) (j.at b) (LR a l) hm).2
 |false =>
  rw[hb]at j;have hi:=(fC (m:=8) (by decide) (x.fdiv 4)).1;generalize md (x.fdiv 4) 8=i at hi j ⊢;have j:Jk kr ks (i7 (k8 i) W ks).2.2 kr2:=j;show kL (Γ2 nm) kr (aN m (i7 (k8 i) W ks).1).1 = .ok ((i7 (k8 i) W ks).2.1,[],kr2,LA);unfold i7 at j ⊢;have e:(aN m (cond (W&&mK (k8 i).1) ((k8 i).2,o9 (k8 i).1.2,ks) ((k8 i).2,(dU ks (k8 i).1).1,(dU ks (k8 i).1).2)).1).1=(aN m (k8 i).2).1:=by cases mK (k8 i).1<;>rfl
  rw[e];unfold kL;rw[Y6 i hi];show cond (b6 _&&bf (k8 i).1.2 1) (.ok (o9 (k8 i).1.2,[],kr,LA)) (gp (Γ2 nm) kr (aN m (k8 i).2).1)=_;rw[←agC i hi];cases f:mK (k8 i).1 with
  |true=>rw[f]at j;have j:Jk kr ks ks kr2:=j;rw[j.same];rfl
  |false=>rw[f]at j;exact Ul hi j
end
section
variable{ks kr k2 kr2:List Kd}{q κ:Kd}{Γ:bV}{nm n m:Nat}{x y:Int}{r c:Nat}{R:List Itm}{u:OW}{b:Bool}
structure lS (Γ:bV) (w:OW) (p:List TT) (v:List Int) (kr kr2:List Kd):Prop where
 rd:∀m R r c,dM R->iT Γ kr w r c ((aN m p).1++R)= .ok (v,R,kr2,LA)
 ne:jr v [11]=LB
theorem qQ(a b:Int)(l:List Int):jr (a::b::l) [11]=LB:=by
 show cond (a == 11) LB LB=LB;cases a == 11<;>rfl
theorem kg{l:Nat}(e:l < 5):nW (cz l y).1.sort=W:=by
 unfold cz;cases a:zC y with
 |false=>exact gM (f:=λn=>nW (qx n).1.sort) (g:=λ_=>W) (by kernel_rfl!) _ (fC (m:=3) (by decide) y).1
 |true=>exact DO (f:=λl n=>nW (za l n).1.sort) (g:=λ_ _=>W) (by kernel_rfl!) l e _ (aY a λ_ b=>LQ b)
theorem adb:∀i,i < 8->∀m R,du R=LB->du ((aN m (k8 i).2).1++R)=LB :=CB (λm R h=>by kernel_rfl!) (λm R h=>by kernel_rfl!) (λm R h=>h) (λm R h=>by kernel_rfl!) (λm R h=>by kernel_rfl!) (λm R h=>by kernel_rfl!) (λm R h=>by kernel_rfl!) (λm R h=>by kernel_rfl!)
theorem Ql(h:du R=LB):du ((aN m (dk x ks nm b).1).1++R)=LB:=by
 unfold dk;cases VE (md x 4) 2 with
 |true=>rfl
 |false =>
  have hi:=(fC (m:=8) (by decide) (x.fdiv 4)).1;show du ((aN m (i7 _ b ks).1).1++R)=LB;unfold i7;cases b&&mK (k8 (md (x.fdiv 4) 8)).1<;>exact adb _ hi m R h
theorem acL{w:OW}{t:List Itm}(hw:w=W7∨w=ly)(h:du t=LB):iT Γ kr w r c t=(gp Γ kr t).bind λq=>.ok ([(oN w.1.code:Int),q.1,0],q.2.1,q.2.2.1,q.2.2.2):=by
 have e:iT Γ kr w r c t=(cond (du t) (Cs Γ .table (.tok w r c) t) (.ok (0,t))).bind λp=>(gp Γ kr p.2).bind λq=>.ok ([(oN w.1.code:Int),q.1,p.1],q.2.1,q.2.2.1,q.2.2.2):=by
  rcases hw with rfl|rfl<;>kernel_rfl!
 rw[e,h];rfl
theorem acM{w:OW}{t:List Itm}{a c':Nat}(hw:w=W7∨w=ly)(h:nW u.1.sort=W):iT Γ kr w r c (.tok u a c'::t)=(fY Γ .table u.1 a c').bind λv=>(gp Γ kr t).bind λq=>.ok ([(oN w.1.code:Int),q.1,v],q.2.1,q.2.2.1,q.2.2.2):=by
 have e:iT Γ kr w r c (.tok u a c'::t)=(cond (nW u.1.sort) ((cond (nW u.1.sort) (Res.ok (Itm.tok u a c')) (odd (Itm.tok u a c'))).bind λ_=>(fY Γ .table u.1 a c').bind λv=>.ok (v,t)) (.ok (0,Itm.tok u a c'::t))).bind λp=>(gp Γ kr p.2).bind λq=>.ok ([(oN w.1.code:Int),q.1,p.1],q.2.1,q.2.2.1,q.2.2.2):=by
  rcases hw with rfl|rfl<;>kernel_rfl!
 rw[e,h];show Res.bind (Res.bind (fY Γ .table u.1 a c') _) _=_;cases fY Γ .table u.1 a c'<;>rfl
theorem sR{w:OW}{i:iQ}{a c':Nat}{t:List Itm}{k:Int}(e:iT Γ kr w r c (.tok u a c'::t)=((cond (nW u.1.sort) (Res.ok (Itm.tok u a c')) (odd (Itm.tok u a c'))).bind λ_=>(fY Γ i u.1 a c').bind λv=>.ok (v,t)).bind λp=>.ok ([k,p.1],p.2,kr,LA))(h:nW u.1.sort=W){v:Int}(f:fY Γ i u.1 a c' = .ok v):iT Γ kr w r c (.tok u a c'::t)= .ok ([k,v],t,kr,LA):=by
 rw[e,h,f];rfl
theorem Jh(h:du R=LB):∀n,fM n R=[]
 |0=>rfl
 |n+1=>by
  cases R with
  |nil=>rfl
  |cons it t=>show cond (du (it::t)) _ _=_;rw[h];rfl
theorem r5{i:Nat}(hi:i < 8):lS (Γ2 nm) (i5 i).1 [.w (cz (i5 i).2.2 y)] [(i5 i).2.1,md y 3] kr kr:=by
 refine⟨λm R r c s=>?_,qQ _ _ _⟩;revert hi;revert i;exact@CB _ (sR (i:=jX 0) (by kernel_rfl!) (kg (by decide)) (kf (by decide))) (sR (i:=jX 0) (by kernel_rfl!) (kg (by decide)) (kf (by decide))) (sR (i:=jX 0) (by kernel_rfl!) (kg (by decide)) (kf (by decide)))
  (sR (i:=jX 2) (by kernel_rfl!) (kg (by decide)) (kf (by decide))) (sR (i:=jX 2) (by kernel_rfl!) (kg (by decide)) (kf (by decide))) (sR (i:=jX 4) (by kernel_rfl!) (kg (by decide)) (kf (by decide))) (sR (i:=jX 4) (by kernel_rfl!) (kg (by decide)) (kf (by decide))) (sR (i:=jX 3) (by kernel_rfl!) (kg (by decide)) (kf (by decide)))
theorem TF:∀i,i < 5->∀t,iT Γ kr (gG i).1 r c t=(IE Γ (gG i).1.1 t (fM 2 t)).bind λp=>.ok (p.1,p.2,kr,LA) :=λi hi t=>by revert i;apply gM;kernel_rfl!
theorem c6:∀i,i < 5->(oN (gG i).1.1.code:Int)=(gG i).2:=by apply gM;kernel_rfl!
theorem afB{i:Nat}(hi:i < 5):lS Γ (gG i).1 [] [(gG i).2,0] kr kr:=by
 refine⟨λm R r c s=>?_,qQ _ _ _⟩;show iT Γ kr (gG i).1 r c R=_;rw[TF i hi,Jh s.ix,←c6 i hi];rfl
theorem afC{i:Nat}(hi:i < 5):lS (Γ2 nm) (gG i).1 [.w (cz 1 y)] [(gG i).2,md y 3] kr kr:=by
 refine⟨λm R r c s=>?_,qQ _ _ _⟩;show iT (Γ2 nm) kr (gG i).1 r c (.tok (cz 1 y) 1 (m+1)::R)=_;rw[TF i hi,←c6 i hi];show Res.bind (IE _ _ _ (cond (nW (cz 1 y).1.sort) (.tok (cz 1 y) 1 (m+1)::fM 1 R) [])) _=_;rw[kg (by decide)];show Res.bind (Res.bind (fY (Γ2 nm) (jX 1) (cz 1 y).1 1 (m+1)) _) _=_;rw[kf (by decide)];rfl
theorem t7(t:List Itm):iT Γ kr lu r c t=(RM Γ lu.1 t (fM 2 t)).bind λp=>.ok (p.1,p.2,kr,LA):=by kernel_rfl!
theorem t8(t:List Itm):iT Γ kr jw r c t=(RN Γ jw.1 (.tok jw r c) t (fM 2 t)).bind λp=>.ok (p.1,p.2,kr,LA):=by kernel_rfl!
theorem c7:(oN lu.1.code:Int)=64526/\(oN jw.1.code:Int)=64524:=⟨by kernel_rfl!,by kernel_rfl!⟩
theorem ahd{a c':Nat}(h:nW u.1.sort=W)(s:du R=LB):fM 2 (Itm.tok u a c'::R)=[Itm.tok u a c']:=by
 show cond (nW u.1.sort) (Itm.tok u a c'::fM 1 R) []=_;rw[h,Jh s];rfl
theorem TY{a:OW}{f c' i e:Nat}(h:nW u.1.sort=W)(h':nW a.1.sort=W):fM 2 (Itm.tok u f c' :: .tok a i e::R)=[Itm.tok u f c',.tok a i e]:=by
 show cond (nW u.1.sort) (Itm.tok u f c'::cond (nW a.1.sort) (Itm.tok a i e::[]) []) []=_;rw[h,h'];rfl
theorem afD:lS Γ lu [] [64526,0,0] kr kr:=by
 refine⟨λm R r c s=>?_,qQ _ _ _⟩;show iT Γ kr lu r c R=_;rw[t7,Jh s.ix,←c7.1];rfl
theorem afE{z:Int}:lS (Γ2 nm) lu [.w (cz 1 y),.w (cz 1 z)] [64526,md y 3,md z 3] kr kr:=by
 refine⟨λm R r c s=>?_,qQ _ _ _⟩;show iT (Γ2 nm) kr lu r c (.tok (cz 1 y) 1 (m+1) :: .tok (cz 1 z) 1 (m+1+1)::R)=_;rw[t7,TY (kg (by decide)) (kg (by decide)),←c7.1];show Res.bind (Res.bind (Res.bind (fY (Γ2 nm) (jX 1) (cz 1 y).1 1 (m+1)) _) _) _=_;rw[kf (by decide)];show Res.bind (Res.bind (Res.bind (fY (Γ2 nm) (jX 1) (cz 1 z).1 1 (m+1+1)) _) _) _=_;rw[kf (by decide)];rfl
theorem afF:lS (Γ2 nm) jw [.w (cz 3 y)] [64524,md y 3,0] kr kr:=by
 refine⟨λm R r c s=>?_,qQ _ _ _⟩;show iT (Γ2 nm) kr jw r c (.tok (cz 3 y) 1 (m+1)::R)=_;rw[t8,ahd (kg (by decide)) s.ix,←c7.2];show Res.bind (Res.bind (fY (Γ2 nm) (jX 3) (cz 3 y).1 1 (m+1)) _) _=_;rw[kf (by decide)];rfl
theorem afG{z:Int}:lS (Γ2 nm) jw [.w (cz 1 y),.w (cz 3 z)] [64524,md z 3,md y 3] kr kr:=by
 refine⟨λm R r c s=>?_,qQ _ _ _⟩;show iT (Γ2 nm) kr jw r c (.tok (cz 1 y) 1 (m+1) :: .tok (cz 3 z) 1 (m+1+1)::R)=_;rw[t8,TY (kg (by decide)) (kg (by decide)),←c7.2];show Res.bind (Res.bind (fY (Γ2 nm) (jX 1) (cz 1 y).1 1 (m+1)) _) _=_;rw[kf (by decide)];show Res.bind (Res.bind (fY (Γ2 nm) (jX 3) (cz 3 z).1 1 (m+1+1)) _) _=_;rw[kf (by decide)];rfl
theorem c3{b:Bool}:(oN (cond b W7 ly).1.code:Int)=((cond b 17 19:Nat):Int):=by cases b<;>kernel_rfl!
theorem w3{b:Bool}:cond b W7 ly=W7∨cond b W7 ly=ly:=by
 cases b
 .exact .inr rfl
 .exact .inl rfl
end
section
variable{ks kr k2 kr2:List Kd}{q κ:Kd}{Γ:bV}{nm n m:Nat}{x y:Int}{r c r1 c1 r2 c2:Nat}{R is t:List Itm}{u w:OW}{b:Option Nat}{bd:List (List Int)}{p:List TT}{v:List Int}
def nI(w:Wd):Bool:=b6 w.iY&&(b6 w.nA&&(b6 (nW w.sort)&&(b6 (w.txt == iK)&&(b6 (w.txt == fP)&&(b6 (w.txt == cZ)&&(b6 (w.txt == eC)&&b6 (w.txt == dN)))))))
def zJ(w:Wd):Bool:=w.iY&&(b6 (oY w.code)&&(b6 (nW w.sort)&&(b6 (w.txt == iK)&&(b6 (w.txt == cZ)&&(b6 (w.txt == eC)&&b6 (w.txt == dN))))))
theorem nF{b:Bool}(h:b6 b=W):b=LB:=by
 cases b with
 |false=>rfl
 |true=>cases h
theorem dM.nil:dM []:=⟨λ_ _ h=>(nomatch h),rfl⟩
theorem dM.tok(h:nW w.1.sort=LB):dM (.tok w r c::t):=⟨λit u e=>by cases e;exact⟨rfl,rfl,rfl⟩,h⟩
theorem Ox(a:nW w.1.sort=LB):eJ (.br (.tok w r1 c1::t) r c)=w.1.txt:=by show cond (nW w.1.sort) iK w.1.txt=_;rw[a];rfl
theorem dM.br(h:nW w.1.sort=LB)(h1:(w.1.txt == cZ)=LB)(a:(w.1.txt == eC)=LB)(f:(w.1.txt == dN)=LB):dM (.br (.tok w r1 c1::t) r c::R):=⟨λit u e=>by cases e;rw[Ox h];exact⟨h1,a,f⟩,rfl⟩
theorem PC(h:du t=LB):nu t=LB:=by
 cases t with
 |nil=>rfl
 |cons it t=>cases it with
  |br=>rfl
  |tok u r2 c2 =>
   have h:nW u.1.sort=LB:=h;show eD u.1.sort=LB;cases q:u.1.sort with
   |word=>rfl
   |int=>rfl
   |id=>rw[q]at h;cases h
structure Ar (Γ:bV) (p:List TT) (v:Int) (kr kr2:List Kd):Prop where
 rd:∀m R,dM R->kL Γ kr ((aN m p).1++R)= .ok (v,R,kr2,LA)
 ix:∀m R,du R=LB->du ((aN m p).1++R)=LB
theorem CM(h:nI w.1=W){P:Prop}(k:w.1.iY=LB->w.1.nA=LB->nW w.1.sort=LB->(w.1.txt == iK)=LB->(w.1.txt == fP)=LB->(w.1.txt == cZ)=LB->(w.1.txt == eC)=LB->(w.1.txt == dN)=LB->P):P :=aY h λa h=>aY h λb h=>aY h λc h=>aY h λd h=>aY h λe h=>aY h λf h=>aY h λg h=>k (nF a) (nF b) (nF c) (nF d) (nF e) (nF f) (nF g) (nF h)
theorem CO(h:zJ w.1=W){P:Prop}(k:w.1.iY=W->oY w.1.code=LB->nW w.1.sort=LB->(w.1.txt == iK)=LB->(w.1.txt == cZ)=LB->(w.1.txt == eC)=LB->(w.1.txt == dN)=LB->P):P :=aY h λa h=>aY h λb h=>aY h λc h=>aY h λd h=>aY h λe h=>aY h λf h=>k a (nF b) (nF c) (nF d) (nF e) (nF f) (nF h)
theorem RG{l:Nat}(hb:bd.length<=500)(a:ks.length<=900)(e:VZ l 900=W):k6 ⟨bd,l,ks⟩=W:=by
 show(bf bd 900&&(bf ks 900&&VZ l 900))=W;rw[cC (LI hb (by decide)),cC a,e];rfl
theorem k9{co:Co}{a:c9}{ts:List c9}(e:k6 co=W):eR Γ (n+1) co (a::ts)=mf (bf ts 900) ((Ac Γ co ts a).bind λq=>eR Γ n q.1 q.2):=by
 show mf (k6 co) _=_;rw[e];rfl
theorem Dg{co:Co}{b0:Nat}(e:k6 co=W)(a:nW w.1.sort=LB)(hb:jT b co.fh=b0):eR Γ (n+1) co [.run is (.tok w r c::t) LB b]=(nN Γ co b0 w r c t).bind λq=>eR Γ n q.2 [.run is q.1 LB (Y b0)]:=by
 subst hb;refine(k9 e).trans ?_;show Ro.bind (cond (LB||nW w.1.sort) .stuck (Ro.bind (nN Γ co (jT b co.fh) w r c t) _)) _=_;rw[a];show Ro.bind (Ro.bind (nN Γ co (jT b co.fh) w r c t) _) _=_;cases nN Γ co (jT b co.fh) w r c t<;>rfl
theorem Je{co:Co}{b0:Nat}{a:List Itm}(e:k6 co=W)(hb:jT b co.fh=b0):eR Γ (n+1) co [.run is (.br a r c::t) LB b]=(vV Γ co (.br a r c)).bind λq=>eR Γ n q.1 (q.2++[.run is t LB (Y b0)]):=by
 subst hb;refine(k9 e).trans ?_;show Ro.bind (Ro.bind (vV Γ co (.br a r c)) _) _=_;cases vV Γ co (.br a r c)<;>rfl
theorem IM{co:Co}{b0:Nat}(a:w.1.iY=W)(e:oY w.1.code=LB)(h:du t=LB):nN Γ co b0 w r c t=vi Γ co w t/\vi Γ co w t=pG co.ks (kL Γ co.ks t) λu=>sU u.2.2.1 (.ok (u.2.1,⟨co.body++[[(oN w.1.code:Int),u.1]],co.fh+1,u.2.2.1⟩)) u.2.2.2 :=⟨by unfold nN;rw[a];rfl,by unfold vi;rw[PC h,e];rfl⟩
theorem EO{is2:List Itm}{co:Co}(e:nW w.1.sort=LB)(a:(w.1.txt == iK)=LB):vV Γ co (.br (.tok w r1 c1::is2) r c)=yE Γ co w r1 c1 is2:=by
 show cond (nW w.1.sort) _ (cond (w.1.txt == iK) _ _)=_;rw[e,a];rfl
theorem vx:W1.1.iY=LB/\W1.1.nA=W/\nW W1.1.sort=LB/\(W1.1.txt == gA)=W:=⟨by kernel_rfl!,by kernel_rfl!,by kernel_rfl!,by kernel_rfl!⟩
theorem vz:nW W2.1.sort=LB/\(W2.1.txt == oD)=W/\(W2.1.txt == cZ)=LB/\(W2.1.txt == eC)=LB/\(W2.1.txt == dN)=LB:=⟨by kernel_rfl!,by kernel_rfl!,by kernel_rfl!,by kernel_rfl!,by kernel_rfl!⟩
section
variable(hs:bd.length<=400)(hk:kr.length<=900)(hk2:kr2.length<=900)
include hs hk
theorem k4:k6 ⟨bd,0,kr⟩=W:=RG (LI hs (by decide)) hk rfl
theorem wO{l:Nat}{v:List Int}(a:VZ l 900=W):k6 ⟨bd++[v],l,kr⟩=W:=RG (by rw[LN];exact LI (VT hs) (by decide)) hk a
theorem Su(hw:nI w.1=W)(i:lS Γ w p v kr kr2)(s:dM R)(hb:jT b 0=0):eR Γ (n+1) ⟨bd,0,kr⟩ [.run is (.tok w r c::((aN m p).1++R)) LB b]=eR Γ n ⟨bd++[v],0,kr2⟩ [.run is R LB (Y 0)]:=by
 refine CM hw λa e f _ _ _ _ _=>(Dg (k4 hs hk) f hb).trans ?_;unfold nN;rw[a,e];dsimp only;rw[i.rd _ _ _ _ s];rfl
include hk2
theorem afI(hw:nI w.1=W)(i:lS Γ w p v kr kr2)(hb:jT b 0=0):eR Γ (n+3) ⟨bd,0,kr⟩ [.run is (.br (.tok w r1 c1::(aN m p).1) r c::R) LB b]=eR Γ n ⟨bd++[v],0,kr2⟩ [.run is R LB (Y 0)]:=by
 refine CM hw λe h f a h1 _ _ _=>(Je (n:=n+2) (k4 hs hk) hb).trans ?_;have:=i.rd m [] r1 c1 dM.nil;rw[VJ]at this;rw[EO f a];unfold yE;rw[h1,e];dsimp only;rw[this];exact(k9 (k4 hs hk2)).trans (k9 (k4 hs hk2))
theorem afJ{a k:Int}(hw:zJ w.1=W)(j:(oN w.1.code:Int)=a)(i:Ar Γ p k kr kr2)(s:dM R)(hb:jT b 0=0):eR Γ (n+2) ⟨bd,0,kr⟩ [.run is (.tok w r c::((aN m p).1 ++ .tok W1 r2 c2::R)) LB b]=eR Γ n ⟨bd++[[a,k],[11]],0,kr2⟩ [.run is R LB (Y 0)]:=by
 refine CO hw λe f h _ _ _ _=>(Dg (n:=n+1) (k4 hs hk) h hb).trans ?_;have q:=IM (Γ:=Γ) (co:=⟨bd,0,kr⟩) (b0:=0) (r:=r) (c:=c) e f (i.ix m (.tok W1 r2 c2::R) vx.2.2.1);rw[q.1,q.2];dsimp only;rw[i.rd m _ (dM.tok vx.2.2.1),j];refine(Dg (n:=n) (co:=⟨bd++[[a,k]],1,kr2⟩) (wO hs hk2 rfl) vx.2.2.1 rfl).trans ?_;unfold nN;rw[vx.1,vx.2.1];show Ro.bind (cond (du R) _ (mf (W1.1.txt == gA) _)) _=_;rw[s.ix,vx.2.2.2];show eR Γ n ⟨bd++[[a,k]]++[[11]],0,kr2⟩ _=_;rw[aa0];rfl
theorem afK{a k:Int}(hw:zJ w.1=W)(B:(w.1.txt == fP)=LB)(A:(oN w.1.code:Int)=a)(i:Ar Γ p k kr kr2)(hb:jT b 0=0):eR Γ (n+3) ⟨bd,0,kr⟩ [.run is (.br (.tok w r1 c1::(aN m p).1) r c::R) LB b]=eR Γ n ⟨bd++[[a,k],[11]],0,kr2⟩ [.run is R LB (Y 0)]:=by
 refine CO hw λe l z j _ _ _=>(Je (n:=n+2) (k4 hs hk) hb).trans ?_;have h:=i.ix m [] rfl;have f:=i.rd m [] dM.nil;rw[VJ]at h f;rw[EO z j];unfold yE;rw[B,e];show Ro.bind ((vi Γ ⟨bd,0,kr⟩ w (aN m p).1).bind _) _=_;rw[(IM (Γ:=Γ) (co:=⟨bd,0,kr⟩) (b0:=0) (r:=0) (c:=0) e l h).2];dsimp only;rw[f,A];refine(k9 (wO hs hk2 rfl)).trans ((k9 (wO hs hk2 rfl)).trans ?_);show eR Γ n ⟨bd++[[a,k]]++[[11]],0,kr2⟩ _=_;rw[aa0];rfl
theorem afL{k:Int}{a c3:Nat}(hw:zJ w.1=W)(h:(w.1.txt == fP)=W)(i:Ar Γ p k kr kr2)(hb:jT b 0=0):eR Γ (n+5) ⟨bd,0,kr⟩ [.run is (.br (.tok w r1 c1::((aN m p).1++[.br [.tok W2 a c3] r2 c2])) r c::R) LB b]=eR Γ n ⟨bd++[[4,k],[11]],0,kr2⟩ [.run is R LB (Y 0)]:=by
 refine CO hw λz A f e _ _ _=>(Je (n:=n+4) (k4 hs hk) hb).trans ?_;have l:=i.ix m [.br [.tok W2 a c3] r2 c2] rfl;have j:=i.rd m [.br [.tok W2 a c3] r2 c2] (dM.br vz.1 vz.2.2.1 vz.2.2.2.1 vz.2.2.2.2);rw[EO f e];unfold yE;rw[h];show Ro.bind (BJ Γ ⟨bd,0,kr⟩ _) _=_;unfold BJ;rw[PC l];dsimp only;rw[j];show Ro.bind (mf (eJ (.br [.tok W2 a c3] r2 c2) == oD) _) _=_;rw[Ox vz.1,vz.2.1];refine(k9 (k4 hs hk2)).trans ((k9 (k4 hs hk2)).trans ((k9 (wO hs hk2 rfl)).trans ((k9 (wO hs hk2 rfl)).trans ?_)));show eR Γ n ⟨bd++[[4,k]]++[[11]],0,kr2⟩ _=_;rw[aa0];rfl
end
end
section
variable{ks kr k2 kr2:List Kd}{q κ:Kd}{Γ:bV}{nm n m:Nat}{x y:Int}{r c:Nat}{R:List Itm}{b:Option Nat}{bd:List (List Int)}{o:On}
inductive xM (Γ:bV) (o:On) (kr kr2:List Kd):Prop
 |pl (w:OW) (p:List TT) (v:List Int) (hw:nI w.1=W) (e:o.1 = .w w::p) (e2:o.2.1=[v]) (i:lS Γ w p v kr kr2)
 |bl (s:Nat) (p:List TT) (k:Int) (hs:s < 3) (e:o.1 = .w (gF s)::p) (e2:o.2.1=[[2+(s:Int),k],[11]]) (i:Ar Γ p k kr kr2)
theorem RC{b:Bool}:nI (cond b W7 ly).1=W:=by cases b<;>kernel_rfl!
theorem ok5:∀i,i < 8->nI (i5 i).1.1=W:=by apply gM;kernel_rfl!
theorem RD:∀i,i < 5->nI (gG i).1.1=W:=by apply gM;kernel_rfl!
theorem CK:nI lu.1=W/\nI jw.1=W:=⟨by kernel_rfl!,by kernel_rfl!⟩
theorem okB:∀s,s < 3->zJ (gF s).1=W:=by apply gM;kernel_rfl!
theorem MQ:∀s,s < 3->(oN (gF s).1.code:Int)=2+(s:Int):=by apply gM;kernel_rfl!
theorem PL:∀s,s < 2->((gF s).1.txt == fP)=LB:=by apply gM;kernel_rfl!
theorem PM:((gF 2).1.txt == fP)=W:=by kernel_rfl!
theorem MB{b:Bool}:(oN (cond b W7 ly).1.code:Int)=cond b 17 19:=by cases b<;>kernel_rfl!
theorem aet(a:eU ks)(f:0 < ks.length)(e:ks.length<=8)(hm:nm<=3):Jk kr ks (fH x ks nm).2.2 kr2->xM (Γ2 nm) (fH x ks nm) kr kr2:=by
 have pl {w:OW}{p:List TT}{v:List Int}(hw:nI w.1=W) (i:lS (Γ2 nm) w p v kr kr) (j:Jk kr ks ks kr2):xM (Γ2 nm) (.w w::p,[v],ks) kr kr2:=.pl w p v hw rfl rfl (by rw[j.same];exact i);refine CQ (P:=λo=>Jk kr ks o.2.2 kr2->xM (Γ2 nm) o kr kr2) (λs y lt j=>.bl s _ _ lt rfl rfl ⟨λm R h=>Zn h (ahD a f e hm j) rfl,λm R h=>Ql h⟩) (λs y z j=>.pl _ _ _ RC rfl rfl ⟨λm R r c h=>?_,qQ _ _ _⟩) (λs z j=>.pl _ _ _ RC rfl rfl ⟨λm R r c h=>?_,qQ _ _ _⟩)
  (λi y hi=>pl (ok5 _ hi) (r5 hi)) (λi hi=>pl (RD _ hi) (afB hi)) (λi y hi=>pl (RD _ hi) (afC hi)) (pl CK.1 afD) (λy z=>pl CK.1 afE) (λy=>pl CK.2 afF) λy z=>pl CK.2 afG
 .show iT (Γ2 nm) kr _ r c (.tok (cz 1 y) 1 (m+1)::((aN (m+1) (dk z ks nm LB).1).1++R))=_;rw[acM w3 (kg (by decide)),show fY (Γ2 nm) .table (cz 1 y).1 1 (m+1)= .ok (md y 3) from kf (l:=1) (by decide),MB];show Res.bind (gp _ _ _) _=_;rw[Jn h (Um a f e hm j) rfl];rfl
 .show iT (Γ2 nm) kr _ r c ((aN m (dk z ks nm LB).1).1++R)=_;rw[acL w3 (Ql h.ix),MB,Jn h (Um a f e hm j) rfl];rfl
theorem N0{a z y:List TT}:cond W [TT.l (a++cond LB z [])] y=[TT.l a]:=by
 show[TT.l (a++[])]=_;rw[VJ]
theorem Uw(C:xM Γ o kr kr2)(A:kr.length<=900)(f:kr2.length<=900)(s:dM R)(hb:jT b 0=0)(B:bd.length<=400):dM ((aN m (i8 x o)).1++R)/\∃j,j<=5/\∀is n,eR Γ (n+j) ⟨bd,0,kr⟩ [.run is ((aN m (i8 x o)).1++R) LB b]=eR Γ n ⟨bd++o.2.1,0,kr2⟩ [.run is R LB (Y 0)]:=by
 obtain⟨a,d,k2⟩:=o;unfold i8;cases C with
 |pl w p v hw e e2 i =>
  have e:a = .w w::p:=e;have e2:d=[v]:=e2;subst e;subst e2;refine CM hw λI M z H h1 D t2 E=>?_;cases LK (md x 2) 1 with
  |false =>
   show dM ((aN m (cond (jr v [11]) _ (.w w::p))).1++R)/\_;rw[show u0 [v]=jr v [11] from rfl,i.ne];exact⟨dM.tok z,1,by decide,λis n=>Su B A hw i s hb⟩
  |true =>
   rw[show sO (.w w::p)=(w.1.txt == fP) from rfl,h1];rw[N0];exact⟨dM.br z D t2 E,3,by decide,λis n=>afI B A f hw i hb⟩
 |bl s' p k h e e2 i =>
  have e:a = .w (gF s')::p:=e;have e2:d=[[2+(s':Int),k],[11]]:=e2;subst e;subst e2;have hw:=okB s' h;refine CO hw λI L z H D t2 E=>?_;cases LK (md x 2) 1 with
  |false =>
   rw[show cond LB [TT.l ((.w (gF s')::p)++cond (sO (.w (gF s')::p)) [.l [.w W2]] [])] (cond (u0 [[2+(s':Int),k],[11]]) (.w (gF s')::p++[.w W1]) (.w (gF s')::p))= .w (gF s')::(p++[.w W1]) from rfl];show dM (.tok (gF s') 1 (m+1)::((aN (m+1) (p++[.w W1])).1++R))/\∃j,j<=5/\∀is n,eR Γ (n+j) ⟨bd,0,kr⟩ [.run is (.tok (gF s') 1 (m+1)::((aN (m+1) (p++[.w W1])).1++R)) LB b]=_;rw[(HK p [.w W1] (m+1)).1,aa0];exact⟨dM.tok z,2,by decide,λis n=>afJ B A f hw (MQ s' h) i s hb⟩
  |true =>
   by_cases lt:s' < 2
   .rw[show sO (.w (gF s')::p)=((gF s').1.txt == fP) from rfl,PL s' lt];rw[N0];exact⟨dM.br z D t2 E,3,by decide,λis n=>afK B A f hw (PL s' lt) (MQ s' h) i hb⟩
   .have G:s'=2:=akM (ajK h) (ale lt);subst G;rw[show sO (.w (gF 2)::p)=((gF 2).1.txt == fP) from rfl,PM];show dM (.br (.tok (gF 2) 1 (m+1+1)::(aN (m+1+1) (p++[.l [.w W2]])).1) 1 (m+1)::R)/\∃j,j<=5/\∀is n,eR Γ (n+j) ⟨bd,0,kr⟩ [.run is (.br (.tok (gF 2) 1 (m+1+1)::(aN (m+1+1) (p++[.l [.w W2]])).1) 1 (m+1)::R) LB b]=_;rw[(HK p [.l [.w W2]] (m+1+1)).1];exact⟨dM.br z D t2 E,5,by decide,λis n=>afL B A f hw PM i hb⟩
def kF(Γ:bV)(jq:Nat)(k0:List Kd)(a:List TT)(bd:List (List Int))(kr:List Kd):Prop:=∀m R,dM R->∃j,j<=jq/\∃b,jT b 0=0/\∀is n,eR Γ (n+j) ⟨[],0,k0⟩ [.run is ((aN m a).1++R) LB LA]=eR Γ n ⟨bd,0,kr⟩ [.run is R LB b]
theorem kF.nil:kF Γ 0 kr [] [] kr:=λm R h=>⟨0,LL _,LA,rfl,λis n=>rfl⟩
theorem kF.step{jq:Nat}{k0:List Kd}{f:List TT}(P:kF Γ jq k0 f bd kr)(C:xM Γ o kr kr2)(i:kr.length<=900)(a:kr2.length<=900)(p:bd.length<=400):kF Γ (jq+5) k0 (f++i8 x o) (bd++o.2.1) kr2:=by
 intro m R h;rw[(HK f (i8 x o) m).1];obtain⟨j,l,b,hb,e⟩:=P m ((aN (aN m f).2 (i8 x o)).1++R) (Uw (b:=LA) (bd:=bd) C i a h rfl p).1;obtain⟨_,w,z,e2⟩:=Uw (m:=(aN m f).2) (x:=x) (R:=R) (b:=b) (bd:=bd) C i a h hb p;refine⟨w+j,by omega,Y 0,rfl,λis n=>?_⟩;rw[aa0,←akJ,e is (n+w),e2 is n]
theorem ad2{q:Kd}:∃u,(dU ks q).2=ks++u:=by
 unfold dU;cases fg q ks with
 |some n=>exact⟨[],(VJ _).symm⟩
 |none=>exact⟨[q],rfl⟩
theorem Jz{b:Bool}:∃u,(dk x ks nm b).2.2=ks++u:=by
 unfold dk;cases VE (md x 4) 2 with
 |true=>exact⟨[],(VJ _).symm⟩
 |false =>
  show ∃u,(i7 _ b ks).2.2=_;unfold i7;cases b&&mK (k8 (md (x.fdiv 4) 8)).1 with
  |true=>exact⟨[],(VJ _).symm⟩
  |false=>exact ad2
theorem aeu:∃u,(fH x ks nm).2.2=ks++u :=
 have z:∃u:List Kd,ks=ks++u:=⟨[],(VJ _).symm⟩
 CQ (P:=λo=>∃u,o.2.2=ks++u) (λ_ _ _=>Jz) (λ_ _ _=>Jz) (λ_ _=>Jz) (λ_ _ _=>z) (λ_ _=>z) (λ_ _ _=>z) z (λ_ _=>z) (λ_=>z) λ_ _=>z
theorem ahk{is:List Int}:∀(k n:Nat) (a:List TT) (bd:List (List Int)) (ks:List Kd),∃z,(gW is nm k n a bd ks).2.2=ks++z:=by
 intro k;induction k with
 |zero=>exactλn a bd ks=>⟨[],(VJ _).symm⟩
 |succ k f =>
  intro n a bd ks;obtain⟨z,e⟩:=f (n+1) (a++i8 (b9 is n) (fH ((b9 is n).fdiv 2) ks nm)) (bd++(fH ((b9 is n).fdiv 2) ks nm).2.1) (fH ((b9 is n).fdiv 2) ks nm).2.2;obtain⟨u,e2⟩:=aeu (x:=(b9 is n).fdiv 2) (ks:=ks) (nm:=nm);exact⟨u++z,by rw[←aa0,←e2];exact e⟩
theorem Jk.split{F:List Kd}(j:Jk kr ks F kr2)(h:∃z,F=k2++z)(l:k2.length<=900)(f:kr.length<=900):∃a,a.length<=900/\Jk kr ks k2 a/\Jk a k2 F kr2:=by
 rcases j with ⟨e1,e2⟩|⟨e1,z,e2⟩
 .exact⟨k2,l,.inl ⟨e1,rfl⟩,.inl ⟨rfl,e2⟩⟩
 .obtain⟨i,e⟩:=h;exact⟨kr,f,.inr ⟨rfl,i++z,by rw[e2,e,aa0]⟩,.inr ⟨e1,z,e2⟩⟩
theorem T9{is:List Int}(hm:nm<=3){k0:List Kd}:∀(k n jq:Nat) (a:List TT) (bd:List (List Int)) (ks kr kr2:List Kd),eU ks->0 < ks.length->ks.length+k<=8->bd.length+2 * k<=100->kr.length<=900->Jk kr ks (gW is nm k n a bd ks).2.2 kr2->kF (Γ2 nm) jq k0 a bd kr -> kF (Γ2 nm) (jq+5 * k) k0 (gW is nm k n a bd ks).1 (gW is nm k n a bd ks).2.1 kr2:=by
 intro k;induction k with
 |zero =>
  intro n jq a bd ks kr kr2 _ _ _ _ _ j P;have j:Jk kr ks ks kr2:=j;rw[j.same];exact P
 |succ k p =>
  intro n jq a bd ks kr kr2 f e B C h j P;have os:=CR (x:=(b9 is n).fdiv 2) (nm:=nm) f e;have j:Jk kr ks (gW is nm k (n+1) (a++i8 (b9 is n) (fH ((b9 is n).fdiv 2) ks nm)) (bd++(fH ((b9 is n).fdiv 2) ks nm).2.1) (fH ((b9 is n).fdiv 2) ks nm).2.2).2.2 kr2:=j;obtain⟨A,l,w,z⟩:=j.split (ahk k (n+1) _ _ _) (by have:=os.ks.2.2;omega) h;have D:=Dj os;have i:=P.step (x:=b9 is n) (aet f e (by omega) hm w) h l (by omega);have:=p (n+1) (jq+5) _ _ _ A kr2 os.ks.1 (LR e os.ks.2.1) (by have:=os.ks.2.2;omega) (by rw[LN];omega) l z i;rw[show jq+5 * (k+1)=jq+5+5 * k by omega];exact this
end
section
variable{Γ:bV}{nm n m:Nat}{bd:List (List Int)}{ks k2:List Kd}{x:Row}
noncomputable def xk(x:Row)(m:Nat)(k2:List Kd):Ro Co:=match x.2.2 with | .ofNat a=>.bad x.2.1 1 (m+(1+a)) k2 | .negSucc _=>.left x.2.1 1 k2
def xO(nm:Nat)(ks:List Kd)(x:Row):Prop:=∀n m bd is,bd.length<=400->∃k2,eR (Γ2 nm) (n+2) ⟨bd,0,ks⟩ [.run is (aN m x.1).1 LB (Y 0)]=xk x m k2
def De(nm n:Nat)(c:Co)(is t:List Itm):Ro Co:=(Ac (Γ2 nm) c [] (.run is t LB (Y 0))).bind λq=>eR (Γ2 nm) n q.1 q.2
theorem dr(a:ks.length<=900)(h:∀n m bd is,De nm (n+1) ⟨bd,0,ks⟩ is (aN m x.1).1=xk x m k2):xO nm ks x:=λn m bd is hb=>⟨k2,(k9 (k4 hb a)).trans (h n m bd is)⟩
theorem dt{v:List Int}{l:Nat}{R:Nat->List Itm}(e:ks.length<=900)(a:k2.length<=900)(f:VZ l 900=W)(h:∀n m bd is,De nm (n+1) ⟨bd,0,ks⟩ is (aN m x.1).1=eR (Γ2 nm) (n+1) ⟨bd++[v],l,k2⟩ [.run is (R m) LB (Y 0)])(b:∀n m bd is,De nm n ⟨bd++[v],l,k2⟩ is (R m)=xk x m k2):xO nm ks x:=λn m bd is hb => ⟨k2,(k9 (k4 hb e)).trans ((h n m bd is).trans ((k9 (wO hb a f)).trans (b n m bd is)))⟩
theorem fc{e:Type}{P:e->Prop}{x:e}{l:List e}(a:P x)(b:∀y∈l,P y):∀y∈x::l,P y:=List.forall_mem_cons.mpr ⟨a,b⟩
theorem ahP(b:ks.length<=8):xO nm ks ([.w xP,.l [.w ip,.w vy],.l [.w jx,.w W6],.w W1],C1,1):=λn m bd is hb=>by
 refine⟨ks,(Dg (r:=1) (c:=m+1) (b0:=0) (w:=xP) (t:=(aN (m+1) [.l [.w ip,.w vy],.l [.w jx,.w W6],.w W1]).1) (k4 hb (LI b (by decide))) (by kernel_rfl!) rfl).trans ?_⟩;have q:=IM (Γ:=Γ2 nm) (w:=xP) (co:=⟨bd,0,ks⟩) (b0:=0) (r:=1) (c:=m+1) (t:=(aN (m+1) [.l [.w ip,.w vy],.l [.w jx,.w W6],.w W1]).1) (by kernel_rfl!) (by kernel_rfl!) rfl;have e:kL (Γ2 nm) ks (aN (m+1) [.l [.w ip,.w vy],.l [.w jx,.w W6],.w W1]).1=((kO ks 99 ([],[-1]) 1 (m+2)).bind λ_=>.ok (99,[],[.tok W1 1 (m+8)],ks)).bind (T7 (aN (m+1) [.l [.w ip,.w vy],.l [.w jx,.w W6],.w W1]).1):=by kernel_rfl!
 have a:kO ks 99 ([],[-1]) 1 (m+2)=cond (decide ((ks.length:Int)<=99)) (.bad C1 1 (m+2)) (match ks[99]? with|some k2=>cond (cV k2 ([],[-1])) (.ok ()) (.bad nO 1 (m+2))|none=>.stuck):=by kernel_rfl!
 rw[show decide ((ks.length:Int)<=99)=W from VW (apx.mpr (LI b (by decide)))]at a;rw[a]at e;rw[q.1,q.2];dsimp only;rw[e];rfl
theorem ahO(b:ks.length<=8)(a:eU ks)(f:0 < ks.length):xO nm ks ([.w W3,.l [.w ip,.w kG],.l [.w W4,.w tT,.w tT],.w W1],nO,1):=by
 cases ks with
 |nil=>cases f
 |cons h ks =>
  obtain⟨i,hi,e⟩:=a h (.head _);subst e;exact dr (k2:=(k8 i).1::ks) (LI b (by decide)) (λn m bd is=>by clear a f b;revert i;apply gM;kernel_rfl!)
theorem ahN(hm:nm<=3):∀n m bd is,De nm (n+1) ⟨bd,0,ks⟩ is (aN m [.w W3,.l [.w ip,.w W9],.w W1]).1=xk ([.w W3,.l [.w ip,.w W9],.w W1],I1,3) m ks :=λn m bd is=>by replace hm:=al0 hm;revert nm;apply gM;kernel_rfl!
theorem af2(hm:nm<=3)(b:ks.length<=8)(f:eU ks)(j:0 < ks.length):∀x∈lO,xO nm ks x :=
 have a:ks.length<=900:=LI b (by decide);have e:(dU ks ([-1],[])).2.length<=900:=LI (Q2 f (i:=0) (by decide)).2.2 (LI (VT b) (by decide))
 fc (dr (k2:=(dU ks ([-1],[])).2) a λn m bd is=>by kernel_rfl!) <|fc (dr (k2:=(dU ks ([-1],[])).2) a λn m bd is=>by kernel_rfl!) <|fc (dr (k2:=ks) a λn m bd is=>by kernel_rfl!) <|fc (dr (k2:=ks) a λn m bd is=>by kernel_rfl!) <|fc (dr (k2:=ks) a λn m bd is=>by kernel_rfl!) <|fc (dr (k2:=ks) a λn m bd is=>by kernel_rfl!) <|fc (dr (k2:=ks) a λn m bd is=>by kernel_rfl!) <|fc (dr (k2:=ks) a λn m bd is=>by kernel_rfl!) <|fc (dr (k2:=ks) a λn m bd is=>by kernel_rfl!) <|fc (dr (k2:=ks) a λn m bd is=>by kernel_rfl!) <|fc (dr a (ahN hm)) <|fc (dr (k2:=ks) a λn m bd is=>by kernel_rfl!) <|fc (dr (k2:=ks) a λn m bd is=>by kernel_rfl!) <|fc (dr (k2:=ks) a λn m bd is=>by kernel_rfl!) <|fc (dr (k2:=ks) a λn m bd is=>by kernel_rfl!) <|fc (dr (k2:=ks) a λn m bd is=>by kernel_rfl!) <|fc (dr (k2:=ks) a λn m bd is=>by kernel_rfl!) <|fc (dr (k2:=ks) a λn m bd is=>by kernel_rfl!) <|fc (dr (k2:=ks) a λn m bd is=>by kernel_rfl!) <|fc (ahO b f j) <|fc (ahP b) <|fc (dt (k2:=ks) (v:=[17,0,0]) (l:=0) (R:=λm=>(aN (m+4) [.l [.w ip,.w kG]]).1) a a rfl (λn m bd is=>by kernel_rfl!) λn m bd is=>by kernel_rfl!) <|fc (dt (k2:=ks) (v:=[2,-1]) (l:=1) (R:=λm=>(aN (m+4) [.l [.w W4,.w W6],.w W1]).1) a a rfl (λn m bd is=>by kernel_rfl!) λn m bd is=>by kernel_rfl!) <|fc (dt (k2:=(dU ks ([-1],[])).2) (v:=[2,(dU ks ([-1],[])).1]) (l:=1) (R:=λm=>(aN (m+4) [.l [.w ip,.w kG],.w W1]).1) a e rfl (λn m bd is=>by kernel_rfl!) λn m bd is=>by kernel_rfl!) <|fc (dr (k2:=ks) a λn m bd is=>by kernel_rfl!) <|fc (dr (k2:=ks) a λn m bd is=>by kernel_rfl!) <|fc (dr (k2:=ks) a λn m bd is=>by kernel_rfl!) <|fc (dr (k2:=ks) a λn m bd is=>by kernel_rfl!) <|fc (dr (k2:=ks) a λn m bd is=>by kernel_rfl!) <|fc (dr (k2:=ks) a λn m bd is=>by kernel_rfl!) <|fc (dr (k2:=ks) a λn m bd is=>by kernel_rfl!) <|fc (dr (k2:=ks) a λn m bd is=>by kernel_rfl!) <|λ_ h=>nomatch h
end
section
variable{Γ:bV}{nm n m jq:Nat}{bd:List (List Int)}{ks kr k0:List Kd}{tx:List TT}
theorem RB:nI W0.1=W:=by kernel_rfl!
theorem acD:lS Γ W0 [] [1] kr kr:=⟨λm R r c s=>by kernel_rfl!,by kernel_rfl!⟩
theorem af0:(lO.all λx=>match x.1 with | .w w::_=>b6 (nW w.1.sort)|_=>LB)=W:=by kernel_rfl!
theorem afX{x:Row}(b:x∈lO):dM (aN m x.1).1:=by
 have:=UA.mp af0 x b;obtain⟨t,w,c⟩:=x;cases t with
 |nil=>cases this
 |cons a r=>cases a with
  |l=>cases this
  |w o=>exact dM.tok (nF this)
theorem afN(P:kF Γ jq k0 tx bd kr)(h:jq<=100)(f:bd.length<=400)(a:kr.length<=900):∃N,N<=3000/\tm Γ N k0 (aN 0 tx).1 = .ok ⟨bd++[[11]],0,kr⟩:=by
 obtain⟨j,l,b,hb,e⟩:=P 0 [] dM.nil;refine⟨2+j,by omega,?_⟩;unfold tm;have e:=e (aN 0 tx).1 2;rw[VJ]at e;rw[e];refine(k9 (k4 f a)).trans ?_;have z:xj Γ ⟨bd,0,kr⟩ [] (aN 0 tx).1 [] LB (jT b 0)= .ok (⟨bd,0,kr⟩,[]):=by rw[hb];rfl
 show mf W (Ro.bind (xj Γ ⟨bd,0,kr⟩ [] (aN 0 tx).1 [] LB (jT b 0)) _)=_;rw[z];show mf (k6 ⟨bd,0,kr⟩) _=_;rw[k4 f a];rfl
theorem afM(hm:nm<=3)(a:kr.length<=8)(i:eU kr)(y:0 < kr.length)(P:kF (Γ2 nm) jq k0 tx bd kr)(z:jq<=100)(f:bd.length<=300){x:Row}(h:x∈lO):∃N,N<=3000/\∃k2,tm (Γ2 nm) N k0 ((aN 0 tx).1++(aN (aN 0 tx).2 (.w W0::x.1)).1)=xk x ((aN 0 tx).2+1) k2:=by
 obtain⟨j,l,b,hb,e⟩:=P 0 (.tok W0 1 ((aN 0 tx).2+1)::(aN ((aN 0 tx).2+1) x.1).1) (dM.tok (CM RB λ_ _ c _ _ _ _ _=>c));obtain⟨k2,e2⟩:=af2 hm a i y x h 0 ((aN 0 tx).2+1) (bd++[[1]]) ((aN 0 tx).1++(aN (aN 0 tx).2 (.w W0::x.1)).1) (by rw[LN];exact LI (VT f) (by decide));refine⟨3+j,by omega,k2,?_⟩;unfold tm;refine(e _ 3).trans ((Su (n:=2) (m:=0) (p:=[]) (LI f (by decide)) (LI a (by decide)) RB acD (afX h) hb).trans e2)
end
section
variable{H G:List MO}{n m:Nat}{α:Type}{f:α->O}{g:α->ajY}{x y:O}{b:Nat}
theorem IW(n:Nat)(l:List Int):toPy H (n+2) (.tup (iA l))=Y (.tuple (l.map .int)):=by
 show(eQ (toPy H (n+1)) (iA l)).map ajU=_;rw[zM n];rfl
theorem ae4(q:Kd):toPy H 49 (aP q)=Y (gD q):=by
 show((((toPy H 48 (.tup (iA q.1))).bind λd=>((toPy H 48 (.tup (iA q.2))).bind λd=>Y [d]).bind λds=>Y (d::ds)).map ajU):Option ajY)=_;rw[IW 46,IW 46];rfl
theorem aeA(h:∀a,toPy H n (f a)=Y (g a))(l:List α):eQ (toPy H n) (l.map f)=Y (l.map g):=by
 induction l with
 |nil=>rfl
 |cons a l e =>
  show((toPy H n (f a)).bind λd=>(eQ (toPy H n) (l.map f)).bind λds=>Y (d::ds))=_;rw[h,e];rfl
theorem aes(h:∀a,df n (g a)=W)(l:List α):bt (df n) (l.map g)=W:=by
 induction l with
 |nil=>rfl
 |cons a l e =>
  show cond (df n (g a)) (bt (df n) (l.map g)) LB=W;rw[h,e];rfl
theorem aaZ(h:∀a,VV (g a) (g a)=W)(l:List α):ahT (l.map g) (l.map g)=W:=by
 induction l with
 |nil=>rfl
 |cons a l e =>
  show(VV (g a) (g a)&&ahT (l.map g) (l.map g))=W;rw[h,e];rfl
theorem UN:∀l:List Int,jr l l=W
 | []=>rfl
 |a::l=>by show cond (a == a) (jr l l) LB=W;rw[UN l,show(a == a)=W from abk a];rfl
theorem EE(l:List Int):VV (.tuple (l.map .int)) (.tuple (l.map .int))=W:=by
 show ahT _ _=W;rw[t9,UN]
structure kB (G:List MO) (x:O) (xs:List O):Prop where
 lo:listOf G x=Y xs
 py:toPy G cM x=(eQ (toPy G 49) xs).map .list
 i:aI x=LA
 s:aS x=LA
theorem kB.ref{xs:List O}(h:G[b]?=Y (.lst xs)):kB G (.ref b) xs:=⟨kX h,by
 show(((G[b]?).bind zw).bind λxs=>(eQ (toPy G 49) xs).map ak8)=_;rw[h];rfl,rfl,rfl⟩
theorem kB.lst{xs:List O}:kB G (.lst xs) xs:=⟨rfl,rfl,rfl,rfl⟩
theorem Q4(p:∀a,toPy G 49 (f a)=Y (g a))(o:∀a,df 49 (g a)=W)(r:∀a,VV (g a) (g a)=W){l:List α}(e:kB G x (l.map f))(h:kB G y (l.map f)):eN x y G=Y LB:=by
 unfold eN aX;have e1:(iG x y λa b=>Y (a == b))=LA:=by unfold iG;rw[e.i];rfl
 have e2:((aS x).bind λa=>(aS y).bind λb=>Y (a == b))=LA:=by rw[e.s];rfl
 have j:oO x y G=LA:=by
  unfold oO;rw[e.lo,h.lo];show gd (b6 (LK (l.map f).length (l.map f).length)) _=_;rw[ajT];rfl
 rw[e1,e2,j];show(kj x y G).bind _=_;unfold kj;rw[e.py,h.py,aeA p];show(gd (bt (df 49) (l.map g)&&bt (df 49) (l.map g)) (Y (ahT (l.map g) (l.map g)))).bind _=_;rw[aes o,aaZ r];rfl
theorem ad5{l:List (List Int)}(a:kB G x (fB l))(e:kB G y (fB l)):eN x y G=Y LB :=Q4 (f:=λv=>.tup (iA v)) (g:=λv=>.tuple (v.map .int)) (λv=>IW 47 v) (λv=>u9 47 v) EE a e
theorem ad6{l:List Kd}(a:kB G x (l.map aP))(e:kB G y (l.map aP)):eN x y G=Y LB :=
 Q4 (f:=aP) (g:=gD) ae4 (λq=>by
  show cond (bt (df 47) (q.1.map .int)) (cond (bt (df 47) (q.2.map .int)) W LB) LB=W;rw[u9 46,u9 46];rfl) (λq=>by
  show(VV (.tuple (q.1.map .int)) (.tuple (q.1.map .int))&&(VV (.tuple (q.2.map .int)) (.tuple (q.2.map .int))&&W))=W;rw[EE,EE];rfl) a e
theorem DP{p:TT->Bool}:∀{a b:List TT},bt p a=W->bt p b=W->bt p (a++b)=W:=by
 intro a b h hb;induction a with
 |nil=>exact hb
 |cons t a i =>
  refine yj (a:=p t) h λh1 e=>?_;show cond (p t) (bt p (a++b)) LB=W;rw[h1,i e];rfl
theorem YU{p:TT->Bool}{t:TT}{a:List TT}(h1:p t=W)(e:bt p a=W):bt p (t::a)=W:=by
 show cond (p t) (bt p a) LB=W;rw[h1,e];rfl
theorem uV:∀(xs:List TT) (n:Nat),(aN n xs).1.length=xs.length
 | [],n=>rfl
 |t::xs,n=>congrArg (· + 1) (uV xs _)
theorem agD{a b:List Itm}(e:iN a=W)(hb:iN b=W):iN (a++b)=W:=by
 induction a with
 |nil=>exact hb
 |cons t a i =>
  have e:(iM t&&iN a)=W:=e;refine aY e λh1 h=>?_;show(iM t&&iN (a++b))=W;rw[h1,i h];rfl
theorem Jd:∀(fu:Nat) (xs:List TT) (n:Nat),bt (fG (dK fu)) xs=W->iN (aN n xs).1=W:=by
 intro fu;induction fu with
 |zero =>
  intro xs;induction xs with
  |nil=>exactλn h=>rfl
  |cons t xs i =>
   intro n h;refine yj (a:=fG (dK 0) t) h λh1 e=>?_;cases t with
   |w o=>exact i _ e
   |l ys=>cases h1
 |succ fu j =>
  intro xs;induction xs with
  |nil=>exactλn h=>rfl
  |cons t xs i =>
   intro n h;refine yj (a:=fG (dK (fu+1)) t) h λh1 e=>?_;cases t with
   |w o=>exact i _ e
   |l ys =>
    have h1:(bf ys 500&&bt (fG (dK fu)) ys)=W:=h1;refine aY h1 λa b=>?_;show((bf (aN (n+1) ys).1 2000&&iN (aN (n+1) ys).1)&&iN (aN (nC n (.l ys)).2 xs).1)=W;rw[i _ e,j ys (n+1) b,show bf (aN (n+1) ys).1 2000=W from cC (by rw[uV];exact LI (eg a) (by decide))];rfl
theorem Qn:∀i,i < 8->∀n,bt (fG (dK (n+1))) (k8 i).2=W:=λi hi n=>by revert i;apply gM;kernel_rfl!
theorem Jy{x:Int}{ks:List Kd}{nm:Nat}{a:Bool}(j:eU ks)(l:0 < ks.length)(n:Nat):bt (fG (dK (n+1))) (dk x ks nm a).1=W:=by
 unfold dk;cases VE (md x 4) 2 with
 |true =>
  have h:=(fC l (x.fdiv 4)).1;show bt _ (lQ _ _ _ _ _).1=W;unfold lQ;rw[WB h];obtain⟨i,hi,e⟩:=j _ (ajO h);show bt _ (cond _ (jz ks[md (x.fdiv 4) ks.length]) [])=W;rw[e,DM i hi];cases LK (md x 4) 1
  .rfl
  .exact Qn i hi n
 |false =>
  have hi:=(fC (m:=8) (by decide) (x.fdiv 4)).1;show bt _ (i7 _ _ _).1=W;unfold i7;cases a&&mK (k8 (md (x.fdiv 4) 8)).1<;>exact Qn _ hi n
theorem RJ{x:Int}{ks:List Kd}{nm:Nat}(a:eU ks)(e:0 < ks.length)(n:Nat):bt (fG (dK (n+1))) (fH x ks nm).1=W :=CQ (P:=λo=>bt (fG (dK (n+1))) o.1=W) (λs y lt=>Jy a e n) (λs y z=>Jy a e n) (λs z=>Jy a e n) (λi y hi=>rfl) (λi hi=>rfl) (λi y hi=>rfl) rfl (λy z=>rfl) (λy=>rfl) λy z=>rfl
theorem ahR{x:Int}{o:On}{ks:List Kd}(os:tM ks o)(a:bt (fG (dK 6)) o.1=W)(h:bt (fG (dK 7)) o.1=W):bt (fG (dK 7)) (i8 x o)=W:=by
 obtain⟨w,r,e,j⟩:=os.wd;have i:o.1.length<=33:=by rw[e];exact VT j
 unfold i8;cases LK (md x 2) 1 with
 |false =>
  cases u0 o.2.1 with
  |false=>exact h
  |true=>exact DP h rfl
 |true =>
  refine YU ?_ rfl;cases sO o.1 with
  |false =>
   show(bf (o.1++[]) 500&&bt (fG (dK 6)) (o.1++[]))=W;rw[VJ,a,show bf o.1 500=W from cC (LI i (by decide))];rfl
  |true =>
   show(bf (o.1++[.l [.w W2]]) 500&&bt (fG (dK 6)) (o.1++[.l [.w W2]]))=W;rw[DP a rfl,show bf (o.1++[.l [.w W2]]) 500=W from cC (by rw[LN];exact LI (VT i) (by decide))];rfl
theorem ahn{is:List Int}{nm:Nat}:∀(k n:Nat) (i:List TT) (bd:List (List Int)) (ks:List Kd),eU ks->0 < ks.length->ks.length+k<=8->bt (fG (dK 7)) i=W -> bt (fG (dK 7)) (gW is nm k n i bd ks).1=W/\(gW is nm k n i bd ks).1.length<=i.length+34 * k/\(gW is nm k n i bd ks).2.1.length<=bd.length+2 * k/\eU (gW is nm k n i bd ks).2.2/\ks.length<=(gW is nm k n i bd ks).2.2.length/\(gW is nm k n i bd ks).2.2.length<=ks.length+k:=by
 intro k;induction k with
 |zero=>exactλn i bd ks j l w h=>⟨h,LL _,LL _,j,LL _,LL _⟩
 |succ k z =>
  intro n i bd ks j l w h;have os:=CR (x:=(b9 is n).fdiv 2) (nm:=nm) j l;have B:=JC (x:=b9 is n) os;have A:=Dj os;have p:=os.ks;have:=z (n+1) (i++i8 (b9 is n) (fH ((b9 is n).fdiv 2) ks nm)) (bd++(fH ((b9 is n).fdiv 2) ks nm).2.1) (fH ((b9 is n).fdiv 2) ks nm).2.2 p.1 (LR l p.2.1) (by omega) (DP h (ahR os (RJ j l 5) (RJ j l 6)));rw[LN,LN]at this;obtain⟨a,b,c,d,e,f⟩:=this;exact⟨a,by show(gW is nm k (n+1) _ _ _).1.length<=_;omega,by show(gW is nm k (n+1) _ _ _).2.1.length<=_;omega,d,LI p.2.1 e,by show(gW is nm k (n+1) _ _ _).2.2.length<=_;omega⟩
theorem af1:(lO.all λx=>dK 8 (.w W0::x.1)&&(VZ x.1.length 10&&bt (λc=>VE c 1114112) x.2.1.cps.toList))=W:=by decide +kernel
end
section
variable{K:bj}{X:KX}{G:List MO}{is:List Int}{D:List Kd}{x0 x2 x6 x7 x8 x9 x10:Option O}{KQ:KF}{XE:KE}
def C9:SM:=(ah (aZ 16 (gc [aj 0])) (ah (aZ 17 (aB rm [jC,Loc 16])) (ah (a9 aqf (aU (aW (.bool LB))) bx) (ah (aZ 18 (aB yC [])) (ah aqq (ah aqP (ah (AG ap9 [⟨[164],[144,183],22,ap0⟩,⟨[183],[144,164],22,ap3⟩]) (aU (aW (.bool LB))))))))))
theorem Ru{b:Type}{a:b}{P:b->Prop}:oP (Y a) P=P a:=by unfold oP;rfl
theorem xX{f:O->O->List MO->Option O}{A B:EM O}{e:En}{H:List MO}(k:A e H (λx H=>B e H (λy H=>oP (f x y H) λv=>K v H) X) X):ao f A B e H K X:=k
def CD:SM:=(ah (aZ 11 (gc [])) (ah (aZ 12 (gc [])) (ah (pJ (.nm 13) aqI Jr) C9)))
def dn(is:List Int):List Kd:=t4 (b9 is 0) (md ((b9 is 0).fdiv 512) 3)
theorem Ng(x:Int)(n:Nat)(h:n < 3):(t4 x n).length=n+1/\eU (t4 x n):=by
 have i (z:Int):∃i,i < 8/\(k8 (md z 8)).1=(k8 i).1:=⟨md z 8,(fC (m:=8) (by decide) z).1,rfl⟩;revert h;revert n;refine CA ⟨rfl,λq m=>?_⟩ ⟨rfl,λq m=>?_⟩ ⟨rfl,λq m=>?_⟩
 .cases aeq.mp m;exact i x
 .rcases VM.mp m with e|m
  .cases e;exact i x
  .cases aeq.mp m;exact i _
 .rcases VM.mp m with e|m
  .cases e;exact i x
  .rcases VM.mp m with e|m
   .cases e;exact i _
   .cases aeq.mp m;exact i _
theorem ahe{a:EM O}{e:En}{H:List MO}{K:bj}{X:KX}(k:a e H (λx H=>oP (listOf H x) λxs=>bP (fits xs) (K (.ref H.length) (H++[.lst xs]))) X):DD a e H K X:=k
theorem Ai:∀n i,(upTo n i).length=n
 |0,i=>rfl
 |n+1,i=>congrArg (· + 1) (Ai n (i+1))
def mm(is:List Int):Nat:=1+md (b9 is 1) 5
def vW(is:List Int)(D:List Kd):List TT×List (List Int)×List Kd:=gW is D.length (mm is) 2 [] [] D
theorem adV(i:is.length<=63)(w:eU D)(y:0 < D.length)(x:D.length<=3)(h:∀G x2 a b e,TI is D (2+mm is) (vW is D).2.2 (vW is D).1 (vW is D).2.1 G->C9 (kQ x0 D x6 x7 x8 x9 x10 x2 a b e) G KQ XE): CD (pU x0 x2 (D.map aP) x6 x7 x8 x9 x10) (ku (gE is 1) .dead (D.map aP) (Γ2 D.length)++[.lst (D.map aP)]) KQ XE:=by
 unfold CD;refine fK ?_;show ah (aZ 12 (gc [])) _ [x0,Y (.ref 0),x2,Y (.lst (D.map aP)),Y (.ref 2),Y (.ref 13),x6,x7,x8,x9,x10,Y (.ref 14),LA,LA,LA,LA,LA,LA,LA,LA,LA,LA,LA] (ku (gE is 1) .dead (D.map aP) (Γ2 D.length)++[.lst (D.map aP),.lst []]) _ _;refine fK ?_;show ah (pJ _ _ _) _ (kQ x0 D x6 x7 x8 x9 x10 x2 LA LA LA) (ku (gE is 1) .dead (D.map aP) (Γ2 D.length)++[.lst (D.map aP),.lst [],.lst []]) _ _;show pJ _ _ _ _ _ _ _;refine cast N4.symm ?_;refine xX (aq _ _ (xX ?_));have z:=(fC (m:=5) (by decide) (b9 is 1)).1;have T:TI is D 2 D [] [] (ku (gE is 2) .dead (D.map aP) (Γ2 D.length)++[.lst (D.map aP),.lst [],.lst []]):=⟨rfl,agP D D.length _,rfl,rfl,rfl⟩;refine d7 (ai (U rfl) aw) (CG (p:=0) (n:=1) rfl i ?_);refine aq _ _ (oI (gC (m:=5) (by decide)) ?_);have j:∀H,aQ (.int 1) (.int (md (b9 is 1) 5:Nat)) H=Y (.int (mm is:Nat)):=λH=>show Y (O.int (1+(md (b9 is 1) 5:Int)))=_ by unfold mm;rw[Int.natCast_add];rfl
 have l:vk (.int (mm is:Nat))=Y (upTo (mm is) 0):=afW (aeI (show mm is<=5 by unfold mm;omega) (by decide));rw[j,Ru,l,Ru];show forL _ _ _ _ _ _ (ku (gE is 2) .dead (D.map aP) (Γ2 D.length)++[.lst (D.map aP),.lst [],.lst []]);refine ahm i x (upTo (mm is) 0) 2 D [] [] _ _ _ _ _ T w y (by rw[Ai];unfold mm;omega) (by rw[Ai];unfold mm;simp only[aaT];omega) (by rw[Ai];unfold mm;simp only[aaT];omega) λG x2 a b e f=>?_;rw[Ai]at f;exact h G x2 a b e f
theorem aey(e:is.length<=63)(h:∀x6 x7 x8 x9 x10,CD (pU (Y (.lst (is.map .int))) (Y (.int (b9 is 0))) ((dn is).map aP) x6 x7 x8 x9 x10) (ku (gE is 1) .dead ((dn is).map aP) (Γ2 (dn is).length)++[.lst ((dn is).map aP)]) (eA K) λC fs _ H=>X C fs H):pZ [.lst (is.map .int)] [] K X:=by
 unfold pZ;refine fun1 ?_;unfold DZ;refine fK (ai (U rfl) (ai aq aw) _ _ (bI rfl ?_));show ah (aZ 2 _) _ [Y (.lst (is.map .int)),Y (.ref 0),LA,LA,LA,LA,LA,LA,LA,LA,LA,LA,LA,LA,LA,LA,LA,LA,LA,LA,LA,LA,LA] [gE is 0] _ _;refine fK (d7 (ai (U rfl) aw) (CG (p:=0) (n:=0) rfl e ?_));show ah (aZ 3 _) _ [Y (.lst (is.map .int)),Y (.ref 0),Y (.int (b9 is 0)),LA,LA,LA,LA,LA,LA,LA,LA,LA,LA,LA,LA,LA,LA,LA,LA,LA,LA,LA,LA] [gE is 1] _ _;have b:=(fC (m:=3) (by decide) ((b9 is 0).fdiv 512)).1;refine fK (aat (x:=b9 is 0) (n:=md ((b9 is 0).fdiv 512) 3) rfl b (aV aq (aV (aV (U rfl) aq rfl) aq (gC (m:=3) (by decide))) rfl) ?_);show ah (aZ 4 _) _ [Y (.lst (is.map .int)),Y (.ref 0),Y (.int (b9 is 0)),Y (.lst ((dn is).map aP)),LA,LA,LA,LA,LA,LA,LA,LA,LA,LA,LA,LA,LA,LA,LA,LA,LA,LA,LA] [gE is 1,.dead] _ _;refine fK (d7 aw (agQ ?_));have dl:=Ng (b9 is 0) _ b;have fl:fits ((dn is).map aP)=W:=cC (by rw[QC];show(t4 (b9 is 0) (md ((b9 is 0).fdiv 512) 3)).length<=60000;omega);refine fK (ahe (U rfl _ _ (oI (a:=(dn is).map aP) rfl (bI fl ?_))));show Cz CD (pU (Y (.lst (is.map .int))) (Y (.int (b9 is 0))) ((dn is).map aP) LA LA LA LA LA) (ku (gE is 1) .dead [] (λ_=>[])++[.lst ((dn is).map aP)]) (eA K) (λC fs _ H=>X C fs H);clear fl dl;unfold dn at h ⊢;revert h;revert b;generalize md ((b9 is 0).fdiv 512) 3=n;revert n;exact CA (λh=>cast (adB ..).symm (h ..)) (λh=>cast (adC ..).symm (h ..)) (λh=>cast (adD ..).symm (h ..))
variable{H:List MO}{e:En}{Fk:List Kd}{nm:Nat}{c:Nat}{jq:Nat}{tx:List TT}{bd:List (List Int)}{w:Str}{r:Int}{d:Int}{x13:Option O}{x14:Option O}{x15:Option O}{x18:Option O}
theorem ME{K:KF}{ts os:List Nat}{sl:Nat}{a:SM}{r:List Hd}{C:Nat}{fs:List (Str×O)}{e:En}(m:bJ C ts=W)(k:a (e.set sl (Y (.exc C fs))) H (λfl e H=>K fl (clean e) H) λ_ _ _ _=>False):q7 K (⟨ts,os,sl,a⟩::r) C fs e H:=cT m k
theorem ZD{K:KF}{ts os:List Nat}{sl:Nat}{a:SM}{r:List Hd}{C:Nat}{fs:List (Str×O)}{e:En}(m:bJ C ts=LB)(o:bJ C os=W)(k:q7 K r C fs e H):q7 K (⟨ts,os,sl,a⟩::r) C fs e H:=cF m (bI o k)
theorem YY:iJ gT [] [144,164,183] (.exc 164 (n9 w r1 c1)) H=Y (.str w):=rfl
theorem YZ:iJ dq [202,230,355] [164] (.exc 164 (n9 w r1 c1)) H=Y (.int r1):=rfl
theorem Y0:iJ da [202,230,355] [164] (.exc 164 (n9 w r1 c1)) H=Y (.int c1):=rfl
theorem Y2:iJ gT [] [144,164,183] (.exc 183 (zr w r1)) H=Y (.str w):=rfl
theorem Y3:iJ bX [355,522] [183] (.exc 183 (zr w r1)) H=Y (.int r1):=rfl
theorem eq_3(hw:bt (λx=>VE x 1114112) w.cps.toList=W):aX (.lst [.str w,.int r,.int d]) (.lst [.str w,.int r,.int d]) H=Y W:=by
 have e:kj (.lst [.str w,.int r,.int d]) (.lst [.str w,.int r,.int d]) H=Y W:=by
  unfold kj;have t:toPy H cM (.lst [.str w,.int r,.int d])=Y (.list [.str w,.int r,.int d]):=rfl;rw[t];have o:df cM (.list [.str w,.int r,.int d])=W:=by
   show(cond (bt (λx=>VE x 1114112) w.cps.toList) _ _)=W;rw[hw];rfl
  show gd (df cM _&&df cM _) (Y ((w == w)&&((r == r)&&((d == d)&&W))))=_;rw[o,show(w == w)=W from abk w,show(r == r)=W from abk r,show(d == d)=W from abk d];rfl
 unfold aX;rw[show(iG (.lst [.str w,.int r,.int d]) (.lst [.str w,.int r,.int d]) λa b=>Y (a == b))=LA from rfl,show((aS (.lst [.str w,.int r,.int d])).bind λx=>(aS (.lst [.str w,.int r,.int d])).bind λy=>Y (x == y))=LA from rfl,show oO (.lst [.str w,.int r,.int d]) (.lst [.str w,.int r,.int d]) H=LA from rfl];exact e
theorem MN{F:Fn}{a b:EM O}{x:O}(f:Ev a e H x)(k:b e (H++[.bD []]) (λy G=>F [x,.ref H.length,y] G K X) X):aB F [a,lR [],b] e H K X:=f _ _ k
def EB(x0:Option O)(D:List Kd)(x6 x7 x8 x9 x10 x2 x13 x14 x15 a b x18 f h i:Option O):En:=[x0,Y (.ref 0),x2,Y (.lst (D.map aP)),Y (.ref 2),Y (.ref 13),x6,x7,x8,x9,x10,Y (.ref 14),Y (.ref 15),x13,x14,x15,a,b,x18,f,h,i,LA]
theorem afY{x:Row}(f:x∈lO):dK 8 (.w W0::x.1)=W/\x.1.length<=10/\bt (λc=>VE c 1114112) x.2.1.cps.toList=W :=aY (UA.mp af1 x f) λa b=>aY b λb c=>⟨a,LQ b,c⟩
theorem aeY{a b:List TT}{m:Nat}(h:a.length<=300)(i:b.length<=100)(f:bt (fG (dK 7)) a=W)(hb:dK 8 b=W):Ps ((aN 0 a).1++(aN m b).1) 0 ((aN 0 a).1++(aN m b).1):=by
 have hb:(bf b 500&&bt (fG (dK 7)) b)=W:=hb;refine Ps.of (r:=0) (c:=0) ?_;show(bf _ 2000&&iN _)=W;rw[agD (Jd 7 a 0 f) (Jd 7 b m (aY hb λ_ z=>z)),cC (show((aN 0 a).1++(aN m b).1).length<=2000 by rw[LN,uV,uV];omega)];rfl
theorem ahh{x:Row}(y:x∈lO)(hm:nm<=3)(hk:Fk.length<=8)(M:eU Fk)(ne:0 < Fk.length)(P:kF (Γ2 nm) jq Fk tx bd Fk)(Q:jq<=100)(hs:bd.length<=300)(S:dm G 2 (Γ2 nm) Fk)(A:G[c]?=Y (.lst [.int (aN 0 tx).2]))(I:12 < c)(lt:tx.length<=300)(ot:bt (fG (dK 7)) tx=W)(h:∀G,K (.bool W) G): ah (AG ap9 [⟨[164],[144,183],22,ap0⟩,⟨[183],[144,164],22,ap3⟩]) (aU (aW (.bool LB))) (EB x0 D x6 x7 x8 x9 x10 x2 x13 (Y (.lst (bO x.1))) x15 (Y (.ref c)) (Y (.lst (aL (aN 0 tx).1))) x18 (Y (.str x.2.1)) (Y (.int x.2.2)) (Y (.int (aN 0 tx).2))) G (eA K) (λC fs _ H=>X C fs H):=by
 obtain⟨B,ol,E⟩:=afY y;have lG:12 < G.length:=(Sa.mp (S.tb .data)).1;have cG:c < G.length:=(Sa.mp A).1;show aB oq _ _ _ _ _;refine MN (U rfl) (xX (U rfl _ _ ?_));show aB rm _ _ _ _ _;have f:∀H,aQ (.lst [.str W0.1.txt]) (.lst (bO x.1)) H=Y (.lst (bO (.w W0::x.1))):=λH=>tX (show 1+(bO x.1).length<=1000 by rw[xv];omega);refine d7 (xs:=[.lst (bO (.w W0::x.1)),.ref c]) (ai (aV (dS (xs:=[.str W0.1.txt]) (ai aq aw) rfl) (U rfl) (f _)) (ai (U rfl) aw)) ?_;show l5 8 _ _ _ _;refine Qj 8 (.w W0::x.1) (aN 0 tx).2 (G++[.bD []]) _ _ B ((Le.n G _).g A) λF u iz=>?_;have hd:F[G.length]?=Y (.bD []):=u _ _ (eG G _) (mB (by omega));have S2:dm F 2 (Γ2 nm) Fk:=(S.le (Le.n G _)).up u λi hi=>mB (by omega);have p:=aeY (a:=tx) (b:=.w W0::x.1) (m:=(aN 0 tx).2) lt (by simp only[VN];omega) ot B;have ad:aQ (.lst (aL (aN 0 tx).1)) (.lst (aL (aN (aN 0 tx).2 (.w W0::x.1)).1)) F=Y (.lst (aL ((aN 0 tx).1++(aN (aN 0 tx).2 (.w W0::x.1)).1))):=by
  rw[Ey];exact tX (by rw[kP,kP,uV,uV];simp only[VN];omega)
 refine oI ad ?_;obtain⟨N,T,k2,L⟩:=afM hm hk M ne P Q hs y;refine Sy (n:=N) S2 (aj9 lG (Sa.mp hd).1) T p ?_;rw[L];obtain⟨t,z,l⟩:=x;unfold xk;cases l with
 |ofNat a =>
  refineλj u2 S3=>?_
  show q7 _ _ _ _ _ _;refine ME rfl (cW (v:=.bool W) (EG (ua (dS (xs:=[.str z,.int 1,.int ((aN 0 tx).2+1+(1+a):Nat)]) (ai (cR (U rfl) YY rfl) (ai (cR (U rfl) YZ rfl) (ai (cR (U rfl) Y0 rfl) aw))) rfl) (dS (xs:=[.str z,.int 1,.int ((aN 0 tx).2+1+(1+a):Nat)]) (ai (U rfl) (ai aq (ai (aV (aV (U rfl) aq rfl) (U rfl) ?_) aw))) rfl) (eq_3 E)) (ua (U rfl) aq (zI (VW (akl a))))) (h j));show Y (O.int (((aN 0 tx).2:Int)+2+(a:Int)))=_;exact congrArg (λi=>Y (O.int i)) (by push_cast;omega)
 |negSucc a =>
  have Z:a=0:=by
   have:=UA.mp (show(lO.all λx=>match x.2.2 with | .ofNat _=>W | .negSucc a=>LK a 0)=W by kernel_rfl!) _ y;exact VH this
  subst Z
  refineλj u2 S3=>?_
  show q7 _ _ _ _ _ _;refine ZD rfl rfl (ME rfl ?_);exact cW (v:=.bool W) (ua (dS (xs:=[.str z,.int 1,.int (-1)]) (ai (cR (U rfl) Y2 rfl) (ai (cR (U rfl) Y3 rfl) (ai (U rfl) aw))) rfl) (dS (xs:=[.str z,.int 1,.int (-1)]) (ai (U rfl) (ai aq (ai (rj aq rfl) aw))) rfl) (eq_3 E)) (h j)
end
section
variable{K:bj}{X:KX}{H G:List MO}{e:En}{D Fk:List Kd}{nm c jq:Nat}{tx:List TT}{bd:List (List Int)}{is:List Int}{x0 x2 x6 x7 x8 x9 x10 x13 x14 x15 x18:Option O}
theorem agy{C:SM}{K:KF}{X:KE}(k:C e H K X):bx e H (mJ C K X) X:=k
theorem adw:iZ (.lst (lO.map Dc)) H=Y (.int (32:Nat)):=by kernel_rfl!
theorem afT(hl:is.length<=63)(f:Nat)(hD:D.length<=3)(h8:eU Fk)(ne:0 < Fk.length)(A:Fk.length<=8)(T:TI is D f Fk tx bd G)(P:kF (Γ2 D.length) jq D tx bd Fk)(Z:kF (Γ2 D.length) jq Fk tx bd Fk)(Q:jq<=100)(E:bd.length<=300)(lt:tx.length<=300)(I:bt (fG (dK 7)) tx=W)(h:∀G,K (.bool W) G): C9 (kQ x0 D x6 x7 x8 x9 x10 x2 x13 x14 x15) G (eA K) (λC fs _ H=>X C fs H):=by
 have B:15 < G.length:=(Sa.mp T.bd).1;unfold C9;refine fK (ai aq aw _ _ (bI rfl ?_));have z:=eG G (.lst [.int 0]);have j:=T.up (Up.r.nn _:Up [13] G (G++[.lst [.int 0]])) ((Le.n G _).g T.wx);generalize G.length=c at B z ⊢;generalize G++[MO.lst [.int 0]]=S at z j ⊢;have o8:dK 8 tx=W:=by
  show(bf tx 500&&bt (fG (dK 7)) tx)=W;rw[I,show bf tx 500=W from cC (LI lt (by decide))];rfl
 refine fK ?_;show aB rm _ _ _ _ _;refine d7 (xs:=[.ref 14,.ref c]) (ai (U rfl) (ai (U rfl) aw)) ?_;show l5 8 _ _ _ _;refine ac7 (fu:=7) (n:=0) o8 j.tx z λp u iz=>?_;show ah (a9 _ _ _) _ (EB x0 D x6 x7 x8 x9 x10 x2 x13 x14 x15 (Y (.ref c)) (Y (.lst (aL (aN 0 tx).1))) LA LA LA LA) p _ _;have ps:Ps (aN 0 tx).1 0 (aN 0 tx).1:=by
  refine Ps.of (r:=0) (c:=0) ?_;show(bf _ 2000&&iN _)=W;rw[Jd 7 tx 0 I,cC (show(aN 0 tx).1.length<=2000 by rw[uV];omega)];rfl
 have S2:dm p 2 (Γ2 D.length) D:=j.sp.up u λi hi=>mB (by omega);have l2:12 < p.length:=(Sa.mp (S2.tb .data)).1;obtain⟨N,hN,er⟩:=afN P Q (LI E (by decide)) (LI A (by decide));show aB oq _ _ _ _ _;refine MN (U rfl) (U rfl _ _ ?_);refine Sy (n:=N) (S2.le (Le.n p _)) (by rw[LN];exact an3 l2) hN ps ?_;rw[er]
 refineλw b L S3 hb _=>?_
 have y:∀{k:Nat}{m:MO},S[k]?=Y m->k≠c->bJ k [2+2,2+3]=LB->w[k]?=Y m:=λA n1 f=>L _ _ ((Le.n p _).g (u _ _ A (mB n1))) f;have p3:=y j.w5 (by omega) rfl;have k3:=y j.wx (by omega) rfl;have b3:=y j.bd (by omega) rfl;have c3:w[c]?=Y (.lst [.int (aN 0 tx).2]):=L _ _ ((Le.n p _).g iz) (sV (by omega) (by omega));clear T j u L y z iz;refine(aV (v:=.lst (fB (bd++[[11]]))) (U rfl) (dS (xs:=[.tup [.int 11]]) (ai (cA (ai aq aw) rfl) aw) rfl) ?_) _ _ ?_
 .rw[Ms];unfold aQ;rw[show(iG (.ref 15) (.lst [.tup [.int 11]]) λa b=>Y (O.int (a+b)))=LA from rfl,show((aS (.ref 15)).bind λa=>(aS (.lst [.tup [.int 11]])).bind λb=>gd (fits (a.cps.toList++b.cps.toList)) (Y (O.str (a++b))))=LA from rfl,kX b3];show gd (fits (fB bd++[.tup [.int 11]])) _=_;rw[show fits (fB bd++[O.tup [.int 11]])=W from cC (by rw[LN,D4];exact LI (VT E) (by decide))];rfl
 refine oI (ad5 (kB.ref hb) kB.lst) (cF rfl ?_);have q:Ev arc (EB x0 D x6 x7 x8 x9 x10 x2 x13 x14 x15 (Y (.ref c)) (Y (.lst (aL (aN 0 tx).1))) LA LA LA LA) w LB:=mY (bq (cR (v:=.ref 5) (U rfl) (gh S3.sp rfl rfl) rfl) (U rfl) (ad6 (l:=Fk) (kB.ref S3.kinds) (kB.ref k3))) λK X k=>k;refine q _ _ (cF rfl ?_);refine agy (fK (d7 aw (ahS ?_)));have hi:=(fC (m:=32) (by decide) (b9 is f)).1;have x:md (b9 is f) 32 < lO.length:=hi;refine iL (xX (U rfl _ _ (xX (d7 (ai (U rfl) aw) (CG p3 hl (dy (U rfl) adw _ _ ?_))))));refine oI (gC (m:=32) (by decide)) ?_;refine oI (uW (v:=Dc lO[md (b9 is f) 32]) (by rw[abI,WB x];rfl) (aj9 hi (by decide)) _) ?_;refine oI rfl ?_;have S4:dm (w.set 0 (gE is (f+1))) 2 (Γ2 D.length) Fk:=S3.up (Up.r.set rfl:Up [0] w _) λi hi=>mB (by omega);have M:(w.set 0 (gE is (f+1)))[c]?=Y (.lst [.int (aN 0 tx).2]):=by
  rw[WC (by omega)];exact c3
 refine eS (v:=.int (aN 0 tx).2) (aV (U rfl) aq (Qk M)) ?_;exact ahh (ajO x) hD A h8 ne Z Q E S4 M (by omega) lt I h
theorem aim(j:is.length<=63)(h:∀G,K (.bool W) G):pZ [.lst (is.map .int)] [] K X:=by
 have p:=(fC (m:=3) (by decide) ((b9 is 0).fdiv 512)).1;have C:=(fC (m:=5) (by decide) (b9 is 1)).1;have dl:=Ng (b9 is 0) _ p;have i:(dn is).length<=3:=by have:=dl.1;show(t4 _ _).length<=3;omega
 have a:0 < (dn is).length:=by have:=dl.1;show 0 < (t4 _ _).length;omega
 have b:eU (dn is):=dl.2;refine aey j λx6 x7 x8 x9 x10=>adV j b a i λG x2 x13 x14 x15 T=>?_;have f:(dn is).length+mm is<=8:=by unfold mm;omega
 have E:mm is<=5:=by unfold mm;omega
 have o:=ahn (is:=is) (nm:=(dn is).length) (mm is) 2 [] [] (dn is) b a f rfl;have P:=T9 (is:=is) i (k0:=dn is) (mm is) 2 0 [] [] (dn is) (dn is) _ b a f (by simp only[aaT];omega) (by omega) (.inl ⟨rfl,rfl⟩) kF.nil;have l:=T9 (is:=is) i (k0:=(vW is (dn is)).2.2) (mm is) 2 0 [] [] (dn is) (vW is (dn is)).2.2 (vW is (dn is)).2.2 b a f (by simp only[aaT];omega) (by have:=o.2.2.2.2.2;show(gW _ _ _ _ _ _ _).2.2.length<=900;omega) (.inr ⟨rfl,[],(VJ _).symm⟩) kF.nil;obtain⟨w,x,y,z,A,B⟩:=o;exact afT (jq:=0+5 * mm is) j _ i z (LR a A) (LI B f) T P l (by omega) (by simp only[aaT]at y;show(gW _ _ _ _ _ _ _).2.1.length<=300;omega) (by simp only[aaT]at x;show(gW _ _ _ _ _ _ _).1.length<=300;omega) w h
end
end
section
open PySem PySem.W PyProof.Rows PySem.Calls PySem.Spec
def aft:=J 0x73656369646e69
def afz:=J 0x796177
def afe:=J 0x6e69616761
def afg:=J 0x6e77617264
def afx:=J 0x6e727574
def afo:=J 0x746c756166
noncomputable def oV{a b:Type}(f:a->b):List a->List b
 | []=>[]
 |x::r=>f x::oV f r
theorem oW{a b:Type}{f g:a->b}:∀{l:List a},l.map f=oV g l->∀x∈l,f x=g x
 | [],_,x,m=>by cases m
 |y::l,h,x,m=>by
  cases m with
  |head=>exact(ajt h).1
  |tail _ m=>exact oW (ajt h).2 x m
def Rz(P:WD)(a:Nat):Obj:=((H1 P).get? a).getD default
noncomputable def Qs:List Nat:=[3,2,414,164,695,230,67,522,355,22,23,46,47,48,49,50,51,52,53,54,55,56,57,58,501,183,395,415,394,390,388,391,392,389,393,707,708,416,59,60,61,62,63,64,65,66,770,202,144,788,795,814,781,802,821,807,828,406,120,456,430,463,242,38,413,437,250,31,713,449,113,706,423,533,718,387,444,366,201,229,354,500,521,694,769,143,163,182,45,127,373,380,470,477,484,659,666,678,685,30,37,119,141,140,161,160,180,179,199,198,220,219,227,226,241,235,249,243,264,263,271,270,278,277,286,285,279,294,293,287,302,301,295,309,308,331,330,345,344,352,351,365,386,405,412,422,429,436,443,448,455,462,498,497,519,518,532,712,717,732,731,746,745,753,752,760,759,547,546,575,574,582,581,617,616,631,630,624,623,645,644,652,651,671,670,692,691,638,637,596,595,589,588,610,609,603,602,568,567,561,560,554,553,705,780,787,794,801,806,813,820,827,833,832]
def Kf(P:WD):aeb:=Qs.map λa=>(a,Rz P a)
theorem kf_in(P:WD):(Kf P).In (H1 P):=Frag.in_of (as:=Qs) rfl (by kernel_rfl!)
def Ol:List (Str×O):=[(Pr,yH),(rM,(.gl 164)),(y3,(.gl 695)),(yP,(.gl 230)),(Pd,(.int 5)),(O9,(.int (-64))),(Pe,(.int 11)),(acn,(.ty "Exception")),(Pk,(.gl 67)),(Pc,(.int 4)),(y1,(.gl 522)),(yQ,(.gl 355)),(Pa,(.gl 22)),(Pb,(.gl 23)),(Ph,(.gl 46)),(yZ,(.gl 501)),(rN,(.gl 183)),(Pp,(.gl 395)),(Pt,Oe),(Po,Of),(Pf,(.int 27)),(Pg,(.int 28)),(Px,Og),(Py,(.gl 708)),(Pu,(.gl 416)),(Pj,(.gl 59)),(y4,(.gl 770)),(yO,(.gl 202)),(mn,(.gl 144)),(sD,(.gl 788)),(sF,(.gl 795)),(sI,(.gl 814)),(sy,(.gl 781)),(sG,(.gl 802)),(sJ,(.gl 821)),(sH,(.gl 807)),(sL,(.gl 828)),(rU,(.gl 406)),(ach,(.ty "enumerate")),(rK,(.gl 120)),(r7,(.gl 456)),(rY,(.gl 430)),(r8,(.gl 463)),(qj,(.ty "int")),(Pm,(.gl 242)),(rH,(.gl 38)),(rV,(.gl 413)),(rZ,(.gl 437)),(Pn,(.gl 250)),(acf,(.bi "isinstance")),(rG,(.gl 31)),(Pz,(.gl 713)),(Pw,(.gl 449)),(acg,(.bi "len")),(aci,(.ty "list")),(rJ,(.gl 113)),(acj,(.ty "range")),(so,(.gl 706)),(rW,(.gl 423)),(r9,(.gl 533)),(sv,(.gl 718)),(ack,(.ty "str")),(acm,(.ty "tuple")),(rR,(.gl 387)),(r6,(.gl 444)),(rQ,(.gl 366))]
def atT:List (Str×(List Nat×List Nat)):=[(gz,([202],[])),(cS,([202],[])),(qc,([202],[])),(dq,([202,230,355],[164])),(da,([202,230,355],[164])),(bZ,([230,355,522],[])),(bX,([355,522],[183])),(qb,([501],[])),(hY,([501],[])),(fF,([501],[])),(y0,([501],[])),(qg,([522],[])),(oz,([522],[])),(d9,([695],[])),(gB,([695],[])),(fQ,([695],[])),(fO,([695],[])),(iX,([695],[])),(iF,([770],[])),(oF,([770],[])),(eB,([770],[])),(gT,([],[144,164,183]))]
noncomputable def jN:List (Nat×(List Nat×List Nat)):=[(144,([144,164,183],[])),(164,([164],[144,183])),(183,([183],[144,164]))]
def shr:vt:=⟨Ol,atT,ji,fw,ay,nz,jN⟩
structure Sp (c:GC):Prop where
 K:c.K=Kf c.w.params
 quiet:c.quiet=W
theorem ab1(P:WD):EW (Kf P) Ol=W:=by kernel_rfl!
theorem Y1(P:WD):AL (Kf P) atT=W:=by kernel_rfl!
noncomputable def xpO:Obj->XP
 |⟨_,a,.cls x,sl⟩=>⟨x.name,x.qualname,x.ns,x.bases,x.mro.tail,x.hasDict,x.slotNames,x.subclasses,x.abstract,x.collection,a,sl.toList.getD 0 LA,sl.toList.getD 1 LA,sl.toList.getD 2 LA,sl.toList.getD 3 LA,sl.toList.getD 5 LA,match sl.toList.getD 4 LA with|some (.builtin s)=>s|_=>""⟩
 |_=>⟨⟨⟨[]⟩⟩,⟨⟨[]⟩⟩,0,[],[],LB,[],[],LB,LA,LA,LA,LA,LA,LA,LA, ""⟩
def xC(P:WD)(a:Nat):XP:=xpO (Rz P a)
noncomputable def pX:List Nat:=[144,164,183]
theorem UI(P:WD):pX.map (λa=>fN a (Kf P))=oV (λa=>Y ((xC P a).o a)) pX:=by kernel_rfl!
def JH(p:XP):Bool:=p.nid == "Exception.__new__" && p.bm.contains (.type "Exception")&&p.bm.contains (.type "BaseException")&&b6 (p.bm.contains (.type "AttributeError"))&&b6 (p.bm.contains (.type "NameError"))
theorem UJ(P:WD):bt (λa=>JH (xC P a)) pX=W:=by kernel_rfl!
def Ov(P:WD)(q:Nat×List Nat×List Nat):Bool:=bJ q.1 pX&&bt (λC=>bJ C pX&&(aaS C::(xC P C).bm).contains (.ref q.1)) q.2.1&&bt (λC=>bJ C pX&&b6 ((aaS C::(xC P C).bm).contains (.ref q.1))) q.2.2
theorem ab9(P:WD):bt (Ov P) jN=W:=by kernel_rfl!
noncomputable def Bj:List (Nat×Nat):=[(144,141),(164,161),(183,180)]
theorem aaP(P:WD):bt (λq=>zd q.2 (aeJ (Kf P) (.ref q.1) "__init__")&&zc (alo (Kf P) (.ref q.2))) Bj=W:=by kernel_rfl!
theorem acv(P:WD):Ca (Kf P) ji=W:=by kernel_rfl!
noncomputable def tab:Tab:=[(31,1,BF),(38,1,yy),(45,1,iy),(113,1,iy),(120,2,BD),(127,1,iy),(141,1,uh),(161,2,Bk),(180,2,Bz),(164,3,jf),(183,3,vH),(199,1,BC),(202,2,pQ),(220,1,Bu),(230,2,vF),(227,1,vR),(242,2,BE),(250,1,rk),(264,1,Bw),(355,2,vG),(271,1,ue),(278,2,uc),(286,3,ud),(294,3,yw),(302,4,yv),(309,5,lB),(331,6,Bx),(345,1,uf),(352,5,ug),(366,3,rn),(373,1,iy),(380,1,iy),(387,4,BH),(406,1,vS),(413,1,yz),(423,4,hP),(430,2,oj),(437,1,yA),(444,5,l7),(449,6,ui),(456,1,l4),(463,5,vT),(470,1,iy),(477,1,iy),(484,1,iy),(498,1,By),(501,2,x5),(519,1,Bv),(522,2,Ed),(533,3,lC),(713,7,BG),(718,8,yD),(732,1,BA),(770,2,AY),(746,5,jL),(753,1,yx),(760,9,BB),(547,1,Bn),(695,2,xZ),(575,1,vQ),(582,1,yo),(617,3,vP),(631,10,pY),(624,11,vO),(659,1,iy),(666,1,iy),(645,6,lA),(652,11,Bo),(671,7,Bp),(678,1,iy),(685,1,iy),(692,7,Bs),(638,12,yr),(596,5,Bq),(589,13,yt),(610,12,Bl),(603,13,yq),(568,14,Br),(561,15,Bt),(554,16,yu),(706,17,oq),(781,1,oo),(788,10,rm),(795,1,om),(802,7,vU),(807,8,uj),(814,1,l6),(821,9,yB),(828,1,yC),(833,18,pZ)]
def mG:List FR:=[⟨0,[],[hU],[],[],[],[],DY⟩,⟨1,[],[],[],[],[],[],DU⟩,⟨4,[],[],[3],[],[],[],DT⟩,⟨6,[],[],[],[],[],[],L7⟩,⟨7,[],[],[],[],[(144,cQ,6)],[],KZ⟩,⟨8,[],[],[],[],[(144,cQ,6)],[],LX⟩,⟨11,[],[],[],[],[],[],L6⟩,⟨13,[],[],[],[],[],[],Lq⟩,⟨15,[],[uA],[],[],[],[],Lp⟩,⟨18,[],[],[],[],[],[],Lv⟩,⟨20,[],[],[],[],[],[],Lx⟩,⟨21,[],[],[],[(mq,[(355,20)])],[],[],Lu⟩,⟨25,[],[],[],[(mq,[(355,20)]),(qd,[(355,24)])],[],[],LH⟩,⟨26,[],[],[],[(jP,[(355,23)]),(iW,[(355,25)])],[],[],LU⟩,⟨27,[],[m8],[],[],[],[],Lz⟩,⟨28,[],[],[],[(mq,[(355,20)]),(qd,[(355,24)])],[],[],LV⟩,⟨29,[],[],[19],[],[],[],Mp⟩,⟨32,[],[],[17,9],[],[],[],Mn⟩,⟨33,[],[uA,OO,GP,ml],[],[],[],[],DS⟩,⟨34,[],[],[],[],[],[],DV⟩,⟨35,[],[],[9],[],[],[],Mk⟩,⟨36,[],[],[],[(j6,[(230,15)])],[],[],L9⟩,⟨37,[],[],[],[],[],[],DW⟩,⟨38,[],[hU],[35,1,10,0],[],[],[],Mo⟩,⟨39,[],[],[38],[],[],[],Mc⟩,⟨40,[],[],[],[],[],[],L8⟩,⟨41,[],[],[40,35],[],[],[],Ma⟩,⟨45,[],[],[],[],[],[],LW⟩,⟨47,[],[],[],[],[],[],Lr⟩,⟨49,[],[],[48],[],[],[],Ml⟩,⟨50,[],[oE,fF,hU],[29,38,9],[(rP,[(355,26)]),(mw,[(355,27)]),(iW,[(355,25)]),(m7,[(355,28)])],[],[],Md⟩,⟨51,[],[E7,E8],[50,29,38],[(iV,[(355,22)]),(iW,[(355,25)]),(mw,[(355,27)])],[],[(567,23),(567,27)],Mm⟩,⟨52,[],[wh],[],[],[],[(578,21)],LZ⟩,⟨54,[],[],[17,32,9],[],[],[],LY⟩,⟨55,[],[mx,B7],[],[],[],[],L4⟩,⟨56,[],[dq,da,O4,iF,wi,oE,hU],[19,29,51,9],[(iV,[(355,22)]),(iW,[(355,25)]),(d8,[(770,54)]),(m7,[(355,28)]),(sx,[(770,55)])],[],[],L5⟩,⟨57,[],[],[],[],[],[(298,20),(299,22),(300,21)],K6⟩,⟨59,[],[],[],[],[],[],Lg⟩,⟨60,[],[],[],[],[],[],K2⟩,⟨61,[],[],[46],[],[],[],Lb⟩,⟨62,[],[d8,iF,wg],[35],[(uO,[(770,56)])],[],[],Lo⟩,⟨63,[],[wg,eB,OY,OZ,j6],[36,39],[(lI,[(695,62)])],[],[(420,54)],K1⟩,⟨66,[],[],[41],[(d8,[(770,54)])],[],[],K5⟩,⟨67,[],[c5,hU,uA,m8],[40,41],[(d8,[(770,54),(695,66)]),(lI,[(695,62)]),(gQ,[(695,64)]),(gu,[(695,65)])],[],[(478,16)],K7⟩,⟨68,[],[m8,aft,uA,c5],[40,35,41],[(d8,[(770,54),(695,66)])],[],[(501,16),(511,66)],Ld⟩,⟨71,[],[eB,O0],[36,39],[],[],[(540,26)],Lm⟩,⟨72,[],[ml,B5,d8],[37,35,33,34,10,4],[(jR,[(695,71)]),(d8,[(770,54),(695,66)]),(oE,[(695,67)]),(uM,[(695,68)]),(qi,[(695,69)]),(uN,[(695,70)])],[],[],K9⟩,⟨73,[],[gu],[35,40],[(qh,[(695,60)])],[],[],Lj⟩,⟨74,[],[bZ,bX,gu,hU,kW],[33],[(ng,[(695,61)]),(nh,[(695,63)]),(m9,[(695,59)]),(uK,[(695,73)]),(kW,[(695,72)])],[],[],Lh⟩,⟨75,[],[gu,bX,hU,G8,wg,OX],[36,35,49],[(ng,[(695,61)]),(nh,[(695,63)])],[],[(402,16)],K4⟩,⟨76,[],[hY,fF,bZ,gu,bX,hU,kW],[36,35,33,49],[(uL,[(695,75)]),(ng,[(695,61)]),(nh,[(695,63)]),(m9,[(695,59)]),(kW,[(695,72)])],[],[],K3⟩,⟨77,[],[m6],[35],[(sj,[(695,76)]),(sh,[(695,74)])],[],[],Ll⟩,⟨78,[],[gz,OV],[],[(m9,[(695,59)]),(qh,[(695,60)]),(jS,[(695,77)])],[],[],Ln⟩,⟨79,[],[],[49],[(uJ,[(695,78)])],[],[],Lk⟩,⟨80,[],[],[58],[(sa,[(695,79)])],[],[],Mj⟩,⟨81,[],[bX],[],[],[],[],Mf⟩,⟨83,[],[],[],[],[],[],D0⟩,⟨84,[],[],[],[(d8,[(770,54),(695,66)])],[],[],Mg⟩,⟨85,[],[afz,mx,wi,afe,hU,nq,E7,E8],[83,84],[],[],[],Mi⟩,⟨86,[],[mx],[],[],[],[],Me⟩,⟨87,[],[gz,nq,wi,Hv,c5,cS,hY,ml,y7,B8,mx,B7,O7,gS],[85,86],[],[],[],Mh⟩,⟨88,[],[fF,O8,y7],[],[],[],[],D1⟩,⟨89,[],[O5,Hu,afg,d9,eB,G8,hU,wh,B8,mx,nq,fQ,afx,GP,wi,sA,bZ,y7,gT,bX,Hv,afo],[81,83,53,87,82,80,88],[],[],[(731,10),(742,12),(743,11),(753,12)],DZ⟩]
def nS:List FR:=[⟨16,[.none],[],[],[(j6,[(230,15)])],[],[],Mb⟩,⟨17,[.none],[],[],[],[],[],DX⟩,⟨22,[.none],[],[16],[(mr,[(355,21)])],[],[],Lw⟩,⟨23,[.none],[],[17],[(mr,[(355,21)])],[],[],Ly⟩,⟨24,[.str cI],[m6],[9],[(mr,[(355,21)])],[],[],Ls⟩]
noncomputable def Ug:List Nat:=[]
def Ja(i:Nat)(F:Fn):Fn:=cond (bJ i Ug) F (sl F)
theorem agz{P:Fn->Prop}{i:Nat}{F:Fn}(h:P F):P (Ja i F):=by unfold Ja;cases bJ i Ug;exact Jb h;exact h
theorem SH(P:WD):bt (λr=>r.ok (Kf P) tab) (mG++nS)=W:=by kernel_rfl!
theorem af9(P:WD):(mG++nS).map (λr=>comp 60 (r.cx (Kf P) shr tab) (vD (r.fd (Kf P) tab)))=oV (λr=>Y r.b) (mG++nS):=by kernel_rfl!
theorem af7(P:WD):(mG++nS).map (λr=>tF tab r.i)=oV (λr=>Ja r.i (r.F (Kf P) tab)) (mG++nS):=by kernel_rfl!
theorem af8(P:WD)(a b e f h i:LD):mG.map (λr=>r.My (Kf P) tab a b e f h i)=oV (λr=>r.Mx (Kf P) tab a b e f h i) mG:=by kernel_rfl!
theorem aga(P:WD):bt (λr=>r.d1 (Kf P) tab) nS=W:=by kernel_rfl!
theorem agb(P:WD)(a b e f h i:LD):nS.map (λr=>r.b1 (Kf P) tab a b e f h i)=oV (λr=>r.b2 (Kf P) tab a b e f h i) nS:=by kernel_rfl!
theorem agc:bt (λr=>r.defs.isEmpty) mG=W:=by kernel_rfl!
section
variable{c:GC}
theorem abK(S:Sp c)(B:pL c shr){r:FR}(a:r∈mG++nS)(hb:r∈mG∨pI c (ej tab r.i) (rq (r.fd c.K tab) (gV (r.fd c.K tab)) r.defs))(b:∀j,j < r.i->Tk c tab j):Tk c tab r.i:=by
 have:=afZ (r:=r) B (T:=tab) (by rw[S.K];exact hI (SH _) r a) (by rw[S.K];exact oW (af9 _) r a) (hb.imp (λm=>⟨λf h l p x y=>by rw[S.K];exact oW (af8 _ f h l p x y) r m,aox.mp (hI agc r m)⟩) id) b;refine⟨?_,this.2⟩;have e:=oW (af7 c.w.params) r a;rw[show tF tab r.i=_ from e];rw[S.K]at this;exact agz (P:=λF=>dO c (tL tab r.i) (.ref (ej tab r.i)) F) this.1
def Em(K:aeb)(C i:Nat):Bool:=makesIn K C&&zd i (aeJ K (.ref C) "__init__")&&zc (alo K (.ref i))&&amU K (.ref C)
def EK(K:aeb)(C i:Nat):Bool:=zd i (aeJ K (.ref C) "__init__")&&zc (alo K (.ref i))&&amU K (.ref C)
theorem ZW{i j N:Nat}{G:Fn->Fn}(b:∀{n F},dO c n (.ref (ej tab i)) F->dO c n (.ref (ej tab i)) (G F))(h:Em c.K (ej tab i) (ej tab j)=W)(e1:tL tab j=N+1)(e2:tL tab i=N+2)(a:tF tab i=sl (G (nV (ej tab i) (tF tab j))))(k:Tk c tab j):Tk c tab i:=by
 unfold Em at h;simp only[LM]at h;refine⟨?_,zm h.2⟩;rw[a,e2];refine Jb (P:=λF=>dO c _ _ F) (b (ah8 h.1.1.1 (HE h.1.1.2) (HB h.1.2) ?_));have:=k.1;rwa [e1]at this
theorem zA{a:Nat}{l:List Nat}(h:bJ a l=W):a∈l:=kY h
theorem EL(S:Sp c){a i:Nat}(b:bJ a pX=W)(hi:eM a Bj=Y i):tC c a i:=by
 have h:=hI (UJ c.w.params) a (zA b);unfold JH at h;simp only[LM,zE,ak6,ajR]at h;have q:=hI (aaP c.w.params) _ (QW hi);rw[LM]at q;rw[←S.K]at q;exact⟨⟨xC c.w.params a,rC (by rw[S.K];exact oW (UI _) a (zA b)),h.1.1.1.1,h.1.1.1.2,h.1.1.2,h.1.2,h.2⟩,HE q.1,HB q.2⟩
theorem NL{i j N:Nat}(h:EK c.K (ej tab i) (ej tab j)=W)(b:tC c (ej tab i) (ej tab j))(e1:tL tab j=N+1)(e2:tL tab i=N+2)(a:tF tab i=sl (An (ej tab i) (tF tab j)))(k:Tk c tab j):Tk c tab i:=by
 unfold EK at h;simp only[LM]at h;refine⟨?_,zm h.2⟩;rw[a,e2];refine Jb (P:=λF=>dO c _ _ F) (abb b ?_);have:=k.1;rwa [e1]at this
noncomputable def yc:List (Nat×Nat×Bool):=[(12,11,W),(14,13,W),(19,18,LB),(46,45,LB),(48,47,LB),(53,52,LB),(58,57,LB)]
def EX(b:Bool)(F:Fn):Fn:=match b with|true=>xK F|false=>F
theorem ZU(P:WD):bt (λp=>Em (Kf P) (ej tab p.1) (ej tab p.2.1)&&VE p.2.1 p.1&&LK (tL tab p.1) (tL tab p.2.1+1)&&VZ 1 (tL tab p.2.1)) yc=W:=by kernel_rfl!
theorem ZS:yc.map (λp=>tF tab p.1)=oV (λp=>sl (EX p.2.2 (nV (ej tab p.1) (tF tab p.2.1)))) yc:=by kernel_rfl!
theorem ab6{F:Fn}{b:Bool}(h:dO c n v F):dO c n v (EX b F):=by
 cases b
 .exact h
 .exact Oc h
theorem ZT(S:Sp c){p:Nat×Nat×Bool}(m:p∈yc)(e:∀j,j < p.1->Tk c tab j):Tk c tab p.1 :=
 aY (hI (ZU c.w.params) p m) λh h4=>aY h λh b=>aY h λh1 a=>ZW (N:=tL tab p.2.1 - 1) (G:=EX p.2.2) ab6 (by rw[S.K];exact h1) (akk (LQ h4)).symm
  ((VH b).trans (congrArg (· + 1) (akk (LQ h4)).symm)) (oW ZS p m) (e _ (xY a))
theorem NK(P:WD):bt (λp=>EK (Kf P) (ej tab p.1) (ej tab p.2)) [(9,7),(10,8)]=W:=by kernel_rfl!
theorem sp9(S:Sp c)(a:∀j,j < 9->Tk c tab j):Tk c tab 9:=NL (j:=7) (N:=1) (by rw[S.K];exact hI (NK _) (9,7) (by decide)) (EL S (by kernel_rfl!) (by kernel_rfl!)) (by kernel_rfl!) (by kernel_rfl!) (by kernel_rfl!) (a _ (by decide))
theorem agJ(S:Sp c)(a:∀j,j < 10->Tk c tab j):Tk c tab 10:=NL (j:=8) (N:=1) (by rw[S.K];exact hI (NK _) (10,8) (by decide)) (EL S (by kernel_rfl!) (by kernel_rfl!)) (by kernel_rfl!) (by kernel_rfl!) (by kernel_rfl!) (a _ (by decide))
def cxI(P:WD)(F:Fn):Cx:=shr.cx ([nq,sA]++[m8,cS,da]) (p4 (Kf P) 788).scope.names ((788,F)::[14,12].map λi=>(ej tab i,tF tab i)) [] [] [(635,12)]
theorem ZM(P:WD)(n:Nat)(F:Fn):comp 60 (cxI P F) (vD (p4 (Kf P) 788))=Y (vC n F):=by kernel_rfl!
theorem fcI(P:WD):(Ci (Kf P) 788&&ro (Kf P) 788 (p4 (Kf P) 788) [nq,sA]&&w6 (p4 (Kf P) 788) [nq,sA]&&bt u7 ([nq,sA]++[m8,cS,da]))=W:=by kernel_rfl!
theorem fbI(P:WD):∀a:List LD,a.length=2->alc (p4 (Kf P) 788) ⟨a,[]⟩=pure (([nq,sA]:List Str).zip a):=λa e=>by apply vK e;exactλb f=>(by kernel_rfl! : alc (p4 (Kf P) 788) ⟨[b,f],[]⟩=pure (([nq,sA]:List Str).zip [b,f]))
theorem spI(S:Sp c)(B:pL c shr)(y:∀j,j < 82->Tk c tab j):∀n,lj c (2+n) 788 (l5 n):=by
 have h:=fcI c.w.params;simp only[LM]at h;obtain⟨⟨⟨h1,a⟩,f⟩,h4⟩:=h;obtain⟨o,e,b⟩:=HA h1;rw[←S.K]at e b a f;have p:=NX e b a f (by rw[S.K];exact fbI _);have i:=zm (BI e b a (defs:=[])).Qq;intro n;induction n with
 |zero=>exact⟨λm _ xs σ K X h=>h.elim,i⟩
 |succ n x =>
  exact⟨Oc (Ob (rest:=[m8,cS,da]) p (Nb B (by rw[S.K];kernel_rfl!) (by rw[S.K]) h4 (qT.cons x (NY (l:=[14,12]) λj m=>⟨y j (by revert j;decide),LI (by revert j;decide +kernel) (ajk 2 n)⟩)) qU.nil qR.nil) rfl rfl rfl (by have:=ZM c.w.params n (l5 n);rw[S.K];exact this)),i⟩
noncomputable def Tu:List Nat:=[9,10,82]
noncomputable def zD:List Nat:=[2,3,5,30,31,42,43,44,64,65,69,70]
theorem aef(P:WD):bt (λi=>amU (Kf P) (.ref (ej tab i))) zD=W:=by kernel_rfl!
theorem aed:zD.map (tF tab)=oV (λ_=>iy) zD:=by kernel_rfl!
theorem aee(S:Sp c){i:Nat}(m:i∈zD):Tk c tab i:=⟨by rw[show tF tab i=iy from oW aed i m];exactλm _ xs σ K X h=>h.elim,zm (by rw[S.K];exact hI (aef _) i m)⟩
theorem cov:bt (λn=>((mG++nS).any λr=>LK r.i n)||((yc.any λp=>LK p.1 n)||(bJ n Tu||bJ n zD))) (agL 90)=W:=by decide +kernel
theorem Ib{n k:Nat}{l:List Nat}{P:Nat->Prop}(h:bJ n (k::l)=W)(a:P k)(b:bJ n l=W->P n):P n:=by
 have h:cond (LK n k) W (bJ n l)=W:=h;cases q:LK n k with
 |true=>rw[VH q];exact a
 |false=>rw[q]at h;exact b h
theorem agO(S:Sp c)(B:pL c shr){n:Nat}(h:bJ n Tu=W):(∀j,j < n->Tk c tab j)->Tk c tab n :=Ib (P:=λn=>(∀j,j < n->Tk c tab j)->Tk c tab n) h (λa=>sp9 S a) λh=>Ib (P:=λn=>(∀j,j < n->Tk c tab j)->Tk c tab n) h (λa=>agJ S a) λh=>Ib (P:=λn=>(∀j,j < n->Tk c tab j)->Tk c tab n) h (λa=>spI S B a 8) λh=>(by cases h)
theorem abJ(S:Sp c)(B:pL c shr){r:FR}(a:r∈mG++nS)(b:∀j,j < r.i->Tk c tab j):Tk c tab r.i :=abK S B a ((akm.mp a).imp_right λm=>abz (by rw[S.K];exact hI (SH _) r a) (by rw[S.K];exact hI (aga _) r m) λe f h l p w=>by rw[S.K];exact oW (agb _ e f h l p w) r m) b
theorem YT(S:Sp c)(B:pL c shr)(n:Nat):n<=90->∀j,j < n->Tk c tab j:=by
 induction n with
 |zero=>exactλ_ j h=>absurd h (akf _)
 |succ n f =>
  intro b j h;have a:=f (ak7 b);refine(anE (ajK h)).elim (a j) λq=>?_;rw[q];refine(akL.mp (hI cov n (aeM.mpr b))).elim (λe=>?_) λe=>(akL.mp e).elim (λe=>?_) λe=>(akL.mp e).elim (λe=>agO S B e a) λe=>aee S (zA e)
  .refine aM (amd.mp e) λr m e=>?_;rw[←VH e]at a ⊢;exact abJ S B m a
  .refine aM (amd.mp e) λr m e=>?_;rw[←VH e]at a ⊢;exact ZT S m a
theorem adp(S:Sp c)(B:pL c shr):lj c 18 833 pZ:=YT S B 90 (LL _) 89 (by decide)
theorem aca(S:Sp c):∀D p,eM D jN=Y p->(∀C∈p.1,pH c C D W)/\∀C∈p.2,pH c C D LB:=λD p h=>by
 have h:=hI (ab9 c.w.params) _ (QW h);unfold Ov at h;rw[LM,LM]at h;have g:∀a,bJ a pX=W->∃q:XP,q=xC c.w.params a/\c.base.get? a=Y (q.o a)/\q.bm.contains (.type "BaseException")=W:=λa m=>by
  have h:=hI (UJ c.w.params) a (zA m);unfold JH at h;simp only[LM]at h;exact⟨_,rfl,rC (by rw[S.K];exact oW (UI _) a (zA m)),h.1.1.2⟩
 obtain⟨q,_,d1,f⟩:=g D h.1.1;refine⟨λC m=>?_,λC m=>?_⟩
 .have z:=hI h.1.2 C m;rw[LM]at z;obtain⟨r,e,b,_⟩:=g C z.1;exact⟨⟨r,b,e▸z.2⟩,q,d1,f⟩
 .have z:=hI h.2 C m;rw[LM,zE,ak6]at z;obtain⟨r,e,b,_⟩:=g C z.1;exact⟨⟨r,b,e▸z.2⟩,q,d1,f⟩
theorem abf(S:Sp c):Ap c fw:=λC m=>by
 have:∀C∈fw,bJ C pX=W/\(eM C Bj).isSome=W:=by decide +kernel
 obtain⟨h1,a⟩:=this C m;cases q:eM C Bj with
 |none=>rw[q]at a;cases a
 |some i=>exact⟨i,EL S h1 q⟩
end
theorem adA{a:Type}{s:Str}{v:a}:∀{l:List (Str×a)},look s l=Y v->(s,v)∈l:=by
 intro l;induction l with
 |nil =>
  exact@λh=>by exact bR h
 |cons e r b =>
  obtain⟨x,w⟩:=e;exact@λh=>by
   exact H5 h (λe1 e2=>by rw[e1,e2];exact .head _) λh=>.tail _ (b h)
theorem acP:∀p∈nz,am2 p.1=Y p.2/\p.1.length<=640:=by decide +kernel
section
variable{c:GC}
theorem lh.nil:lh c []:=λa k h=>by exact bR h
theorem lh.cons{a:Nat}{e:List (AK×O)}{l:Bd}(h:gX c a e)(t:lh c l):lh c ((a,e)::l):=λb k hb =>
 zv hb (λe1 e2=>by rw[e1,←e2];exact h) λhb=>t b k hb
theorem ac2:As nz:=λs i h=>acP _ (adA h)
def AR(a:Nat):List (AK×O):=(eM a ay).getD []
theorem Zd(P:WD):bt (λa=>tZ ND (Kf P) a (AR a)) [22,23,67,395]=W:=by kernel_rfl!
theorem Ze(P:WD):bt (λa=>tZ NF (Kf P) a (AR a)) [416,708]=W:=by kernel_rfl!
def esA(P:WD)(a:Nat):List QA:=((fN a (Kf P)).bind pT).getD []
noncomputable def Tx:List QA->List (Str×Nat×LD)
 | []=>[]
 |e::r=>match e.key with | .str s t=>(s,t,e.val)::Tx r|_=>[]
theorem aa1(P:WD): [416,708].map (λa=>(fN a (Kf P)).bind pT)=oV (λa=>Y ((Tx (esA P a)).map λe=>⟨aaV P e.1,.str e.1 e.2.1,e.2.2⟩)) [416,708]:=by kernel_rfl!
theorem agV{w:ac9}(l:List (Str×Nat×LD)):∀e∈l.map λe=>(⟨aaV w.params e.1,.str e.1 e.2.1,e.2.2⟩: QA),∃s t,e.key = .str s t/\e.hash=hashStr w s:=λe m=>aM (aak.mp m) λp _ h=>by
 rw[←h];exact⟨_,_,rfl,rfl⟩
theorem di(S:Sp c){a:Nat}(h:a∈[22,23,67,395]):gX c a (AR a):=aao (by rw[S.K];exact hI (Zd _) a h)
theorem ds(S:Sp c){a:Nat}(h:a∈[416,708]):gX c a (AR a):=aap (by rw[S.K];exact oW (aa1 _) a h) (agV _) (by rw[S.K];exact hI (Ze _) a h)
theorem Zc(S:Sp c):lh c ay:=(.cons (di S (a:=22) (by decide)) (.cons (di S (a:=23) (by decide)) (.cons (di S (a:=67) (by decide)) (.cons (di S (a:=395) (by decide)) (.cons (ds S (a:=416) (by decide)) (.cons (ds S (a:=708) (by decide)) .nil))))))
theorem abe(P:WD):ake (Kf P) (.type "Exception") (.type "type") "__init__" = Y (.val (.builtin "Exception.__init__")):=by kernel_rfl!
theorem agv(S:Sp c):pL c shr where
 gl:=by rw[S.K];exact ab1 _
 ex:=by rw[S.K];exact abe _
 at_:=by rw[S.K];exact Y1 _
 dJ:=by rw[S.K];exact acv _
 eH:=abf S
 T:=Zc S
 it:=ac2
 hd:=aca S
 quiet:=S.quiet
theorem ado(S:Sp c):dO c 18 (.ref 833) pZ:=(adp S (agv S)).1
end
theorem acO{x:WData}(h:aly [] x .int=W):∃i,x = .int i:=by
 cases x<;>first|exact⟨_,rfl⟩|exact bL h
theorem items_int{xs:List WData}:aoZ [] xs .int=W->∃is:List Int,xs=is.map .int:=by
 induction xs with
 |nil=>exactλ_=>⟨[],rfl⟩
 |cons x r l=>exactλh=>aY (a:=aly [] x .int) (b:=aoZ [] r .int) h λh1 j=>(acO h1).elim λi e=>(l j).elim λis f=>⟨i::is,by rw[e,f];rfl⟩
theorem has_list{d:WData}(h:aly [] d (.list .int)=W):∃is:List Int,d = .list (is.map .int):=by
 cases d<;>first|exact bL h|skip
 rename_i xs
 exact(items_int (xs:=xs) ((Bool.or_false _).symm.trans h)).imp λis e=>by rw[e]
theorem YX{args:List WData}(h:xl.row.toRowW.claim.pre args=W):∃is:List Int,args=[.list (is.map .int)]/\is.length<=63:=by
 refine bg (pre_splitW h) λh1 f=>?_;have h1:WShape.hasAll [] args [.list .int]=W:=h1;cases args with
 |nil=>exact bL h1
 |cons d r =>
  cases r with
  |cons _ _=>exact aY (a:=aly [] d (.list .int)) (b:=LB) h1 λ_ h=>bL h
  |nil =>
   refine LJ (has_list (aY (a:=aly [] d (.list .int)) (b:=W) h1 λh _=>h)) λis i=>?_;subst i;refine⟨is,rfl,?_⟩;have f:(WTm.and (.not (.lt (.lit (.int 63)) (.len (.arg 0)))) (.lit (.bool W))).holds [] { args:=[.list (is.map .int)]}=W:=f;have e:ak0 [] (WTm.and (.not (.lt (.lit (.int 63)) (.len (.arg 0)))) (.lit (.bool W))) { args:=[.list (is.map .int)]}=Y (.bool (!decide ((63:Int)< is.length))):=by
    have k:PySem.W.less? (apc 63) (apc (is.map apc).length)=Y (decide ((63:Int)< is.length)):=by rw[QC];rfl
    rw[ak0,ak0,ak0,ak0,ak0,ak0];dsimp only[ak0,List.getElem?_cons_zero];rw[k];cases decide ((63:Int)< is.length)<;>rfl
   unfold WTm.holds at f;rw[e]at f;refine ale λq=>?_;rw[VW (show(63:Int)< is.length from ahH.mpr q)]at f;exact bL f
theorem adn(P:WD):((fN ajp (Kf P)).bind yk).map (rA qw)=Y (Y (.ref 833)):=by kernel_rfl!
theorem ag5(P:WD):((H1 P).get? agK).isSome=W:=by kernel_rfl!
theorem ahJ(hv:∀is:List Int,is.length<=63->pZ [.lst (is.map .int)] [] (λv _=>v = .bool W) λ_ _ _=>False): WalkO qL u6 (λ_ _=>True) (λw h=>∀a o,(H1 w.params).get? a=Y o->h.get? a=Y o) xl.row.toRowW HX [] λf vs=>apM f vs:=by
 intro w aiI aiq mg mb G D a o pm cd doc dV kV ha hod hcr hdf I l args B as A N hrd M Q;refine aM (YX A) λis C y=>?_;subst C;have hm:aiq.heap.get? agK≠LA:=by
  have:=ag5 w.params;cases q:(H1 w.params).get? agK with
  |none=>rw[q]at this;exact bL this
  |some o=>rw[D _ _ q];simp
 let c:GC:={ prog:=xl.row.toRowW.prog,w:=w,base:=aiq.heap,os:=aiq.os,K:=Kf w.params,KX:=(kf_in _).keeps D,q:=qL,loose:=looseW qL u6,mg:=mg,mb:=mb,top:=topRead_of G.T,mods:=hm,quiet:=W}
 have S:Sp c:=⟨rfl,rfl⟩;have L:dO c 40 (.ref 833) pZ:=(ado S).up (by decide);have z:c.mg qw=Y (.ref 833):=by
  have:=adn w.params;cases q:(fN ajp (Kf w.params)).bind yk with
  |none=>rw[q]at this;exact bR this
  |some es =>
   rw[q]at this;rw[←Ie (c:=c) (es:=es) q qw];have this:Y (rA qw es)=Y (Y (aaS 833)):=this;injection this
 have ea:a=833:=by
  have h1:mg qw=Y (.ref a):=I;have j:mg qw=Y (.ref 833):=z;rw[h1]at j;injection j with j
  injection j
 subst ea;obtain⟨b,us,ev,hb,wu⟩: ∃b us,B=[.ref b]/\aiq.heap.get? b=Y { cls:=.type "list",data:=.seq (apm us)}/\WellAll w.params aiq.heap us (is.map .int):=by
  cases M with
  |cons h1 j =>
   cases j;cases h1;exact⟨_,_,rfl,by assumption,by assumption⟩
 subst ev;have ru:∀{V:Vw}{us:List LD}{is:List Int},WellAll w.params aiq.heap us (is.map .int)->bh V aiq.heap us (is.map .int):=λ{V us is} h=>by
  induction is generalizing us with
  |nil=>cases h;exact .nil
  |cons i r ih=>cases h with
   |cons h1 j=>cases h1;exact .cons (.int _ _) (ih j)
 let σ:Sg:=⟨[],λ_=>0,λ_=>LA⟩
 have X:Rg c 40 (λ_=>False) [] callerA σ aiq:=⟨λ_ _ e=>e,trivial,rfl,λ_=>rfl,by decide +kernel,by decide +kernel,λenv h=>(by exact fj h),λa h=>h.elim,λk m e=>(by simp[σ]at e),λa h=>absurd rfl h,l,rfl⟩;have rl:bh (σ.V λ_=>False) aiq.heap [.ref b] [.lst (is.map .int)]:=.cons (.lst (by rintro (h|h);exact h rfl;exact h) hb (ru wu)) .nil;refine al7 (aj6 (L 40 (LL _) [.lst (is.map .int)] σ _ _ (hv is y) _ _ _ aiq _ X rl) λres s' p=>?_);rcases res with e|(_|_|_|v)
 .refine vg p λx H T E Z q=>?_;exact q.elim
 .exact p.elim
 .exact p.elim
 .exact p.elim
 .refine vg p λx H r E Z q=>?_;have q:x = .bool W:=q;subst q;cases r;refine GoodW.toG ⟨.inl ⟨.bool W,.bool W,[],rfl,λ_=>rfl,.bool W,?_,λ_=>⟨.nil,λa h=>by exact fj h⟩⟩,E.stays,E.os,E.gens⟩;show(aly [] (WData.bool W) .bool&&(WTm.eq .res (.lit (.bool W))).holds [] { args:=[apN (is.map .int)],res:=Y (.bool W),after:=[apN (is.map .int)]})=W
  kernel_rfl!
theorem holds_of(a:∀is:List Int,is.length<=63->pZ [.lst (is.map .int)] [] (λv _=>v = .bool W) λ_ _ _=>False):PySem.Challenge.rw_nm0165_02.Holds:=ahI (ahJ a)
end
end Mine.Lean
theorem PySem.Challenge.cw_nm0165_02_holds : PySem.Challenge.rw_nm0165_02.Holds :=
  Mine.Lean.holds_of fun is hl => Mine.Lean.aim hl fun G => rfl
