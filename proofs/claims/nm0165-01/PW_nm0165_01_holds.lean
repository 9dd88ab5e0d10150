import PyProof.Rows.All
import OpenK.AllK
import PyProof.Rows.KernelRfl
import Wide.All
import Wide.FinOn
import Lean
import PySem.Challenge.RW_nm0165_01
set_option Elab.async false
set_option bootstrap.genMatcherCode false
set_option genSizeOf false
set_option backward.match.sparseCases false
set_option genInjectivity false
set_option genSizeOfSpec false
set_option maxRecDepth 100000
set_option maxHeartbeats 8000000
set_option linter.all false
set_option hygiene false
set_option compiler.extract_closed false
set_option genCtorIdx false
noncomputable section
namespace Mine.Lean
open Option renaming some->Y,none->Sa,map_eq_some_iff->alo,isSome_iff_exists->anm,bind_some->ans,bind->aps,map_some->ap0,none_or->ap9,map_map->aqc,elim->aqP
open Bool renaming true->W,false->UA,and_eq_true->VG,or_true->alx,not_eq_true'->amb,noConfusion->aml,or_eq_true->amx,or_eq_true_iff->amH,eq_iff_iff->anM,and_false->ap7,false_or->aqn
open Option.some renaming inj->UB
open PySem renaming Expr->VC,Value->VD,Shared->VE,Addr->VI,model->VL,DictEntry->VM,compareOp->VV,Heap->WA,wpAny_mono->WD,sizeLine->WI,Params->abI,wpAny_holding->ab9,NameKind->acE,OsState->acH,World->afJ,Around->af2,foldedSetIterable->agc,seqIndex?->ahS,sysModules->aic,binaryOp->aiV,Stmt->ajc,mainGlobals->akp,wpAny_standAt->akr,swappedStores->aks,FuncData->akw,codeAny->aky,Scope->akz,wpAny_field->akB,assignEach->akD,Program->akH,sliceBounds->akO,execs->akS,call_meets->akY,treeTable->ak1,codeAny_mono->ak2,strKind_is->ala,cellsFrom->alb,assign->ald,starEach->alk,wpAny_newObj_type->alu,valueAt->alz,callEnvC->alF,checkBuiltinCall->alG,compEnvC->alH,Result->alI,Comprehension->alK,letOwnedTupleGo->alO,ExcBaseFacts->alT,exec->al9,wpAny_Call_ofName->ama,swapsWithSole->amf,CmpOp->amh,bindArgs->amk,backTo->amr,typeIs_str->amu,codeAny_call_builtin->amy,Thread->amC,spliced->amI,wpAny_loadPart->amJ,getAttr->amK,setItem->amL,noteFrame->amR,swapsWith->amS,behindInMarks->amW,methodCallPos->amY,wpAny_letOwnedTupleGo_enum->amZ,UnaryOp->am1,slot_list_getitem->am3,slot_dict_getitem->am4,builtinsNs->am7,Model->am8,wpAny_rule->anb,wpAny_call->anc,isInstance->ane,getItem->ang,wpAny_getItem_of->anj,IsPart->ank,GenState->anr,wpAny_comp_letGo->anw,Operator->anx,BoolOp->anz,wpAny_callSpecial?_slot->anF,slot_list_setitem->anG,wpAny_pyNext_list_item->anS,wpAny_of_eq->anT,IsRangeIter->anU,wpAny_pyNext_enum_item->anV,pyIter->an2,wpAny_pyIter_listiter->an3,wpAny_pyNext_list_end->an4,methodCallForm->an5,typeOf->an6,wpAny_pyNext_enum_end->an9,intText?->aoa,Flow->aod,Drawn->aof,unbindBehindTheSuite->aoh,lookup_relabel_local->aoi,strKind->aoj,wpAt_of_wpAny->aon,name_of_addr->aoy,lastMarks->aoz,wpAny_pyIter_range->aoB,ScopeKind->aoF,setAttr->aoK,callEnv->aoL,wpAny_sequenceKey->ao1,wpAny_pyIter_list->ao2,getMethod_builtin->ao3,sliceBounds_plain->apf,intKind->api,keywordEach->apk,wpAny_call_entry->apx,ReadsAll->apy,opaqueClassAbove->apA,Spec->apJ,typeLookup->apM,sliceRange->apN,findBy->apP,pyNext->apS,wpAt_bind->apU,wpAny_loadPart'->apW,codeAny_builtin->apX,wpAny_specialOf->apY,closureFor->apZ,importedModules->ap3,leaving->ap8,notedBy->aqa,Keyword->aqb,setFlight->aqf,getMethod->aqh,raiseStmt->aqi,call->aqZ
open Exists renaming elim->VF
open Nat renaming beq->VH,le_refl->VJ,le_trans->VR,lt_of_lt_of_le->VT,eq_of_beq_eq_true->VW,le_of_ble_eq_true->WG,ne_of_lt->abv,blt->aca,lt_of_le_of_lt->aeF,ble->af0,lt_succ_self->af5,le_of_succ_le_succ->air,succ_ne_zero->akv,le_add_right->akx,zero_add->akE,succ_le_succ->akL,not_lt->akM,zero_le->akQ,le_of_eq->ak4,add_le_add_left->ak5,sub_add_cancel->ale,add_right_comm->alf,le_succ->alm,ne_of_beq_eq_false->alq,le_of_lt_succ->alv,le_of_lt->alw,beq_refl->alA,exists_eq_add_of_le'->alZ,lt_of_succ_lt_succ->amc,lt_irrefl->ame,add_assoc->ami,not_lt_zero->amn,le_add_left->amB,sub_add_eq->amM,casesOn->amQ,lt_of_le_of_ne->amT,succ_add_eq_add_succ->anE,add_sub_cancel_left->anK,le_antisymm->anL,min_eq_left->anP,le_of_sub_eq_zero->aob,lt_or_ge->aos,ne_of_gt->aov,lt_trans->aoG,succ_pos->aoI,sub_pos_of_lt->ao5,le_of_succ_le->ao7,min_le_right->apz,succ_ne_self->apC,lt_of_not_le->apD,le_of_not_lt->apI,beq_eq->ap1,sub_le->ap5,sub_self->aqG,one_pos->aqQ
open List renaming length_append->VK,size_toArray->VN,length_map->VO,nodup_cons->VU,lookup_cons->VZ,length_cons->WB,getElem?_eq_some_iff->WC,map_cons->WH,mem_cons_self->WL,mem_cons->WM,getElem?_eq_none->WN,all_eq_true->WO,getElem?_eq_none_iff->aat,mem_append_right->aau,mem_append->aa1,mem_map->abz,replicate->acd,getElem?_set_ne->acF,mem_append_left->acG,length_reverse->aeG,reverse_cons->aeK,getElem?_map->aeQ,append_nil->af1,mem_cons_of_mem->af9,length_nil->akf,contains_cons->akh,range->akk,append_assoc->akn,nodup_append->ako,getElem?_zip_eq_some->akA,of_mem_zip->akC,drop_add_one_eq_tail_drop->akF,map_append->akG,mem_singleton->akR,length_set->akT,any_cons->akU,getElem?_append_left->akX,mem_of_getElem?->ak0,zip_cons_cons->alc,head?_drop->alg,find?_cons_of_pos->alh,find?_cons_of_neg->ali,getElem?_set_self->alj,filterMap_cons->alM,replicate_succ->alN,getElem?_eq_getElem->alR,nodup_nil->al6,length_replicate->amm,drop_nil->amV,all_cons->amX,getElem?_append_right->am2,pairwise_map->am5,flatten_cons->am6,any_eq_true->ani,mem_reverse->anl,isEmpty_iff->anB,length_drop->anC,find?_cons->anN,drop_eq_nil_of_le->anW,dropLast_eq_take->anZ,lookup_cons_self->an0,Nodup->aoe,mem_map_of_mem->aom,lookup_append->aox,not_mem_nil->apH,lookup_nil->apQ,length_zip->apT,mem_range->aqd,take_nil->aqm,toArray->aqx,map_nil->aqz,lookup->aqJ,foldl->aqY
open PySem.Builtin.Range renaming rangeSize->VS,small->agb,rangeFitsLong->alD
open PySem.Heap renaming get?_push_of_some->VX,lt_size->WK,get?_push_size->WQ,SameBut->adM,get?_update_self->akg,get?_update_ne->ak6,get?_update_other->aln,size_push->aly,ExtBut->anR,get?_some_iff->aoE,get?_push_at->ao4
open PySem.W.Fast renaming te14364793385576792824->WJ,te10110043849684766642->aan,te12563942051412417395->aao,te5923862056798008813->akV,te18344453789297297638->al5,te15667345088766844465->aoM,te11892475500146522536->aoN,te11788848310118352699->aoO,te12862048085361865435->aoP,te14412699480532031325->aoQ,te13343964577679436407->aoR,te17691160309236699985->aoS,te17868728402115742887->aoT,te17119622794617984870->aoU,te10501279942588096481->aoV,te16286561074155671207->aoW,te12879404354523853263->aoX,te10792542408131684335->aoY,te12749700546528644094->aoZ,te9807087744658564304->ao8,te8377067652309620493->ao9,te8326940854005059898->apa,te8179353310426384613->apb,te9558739934217749035->apc,te6984425678791042302->apd,te4187177175401517315->ape,te797321630700447069->apq,te482687673346738481->apr,named_eq->aqS
open PySem.PyData renaming eqv->aaI,keyHash->acC,canLayAll0->afE,int->af8,eqvAll->alL,depth->alY,list->amd,depthAll->amz,tuple->aoJ,strOk->aqB
open PySem.Builtin.Str renaming occurrences->abH,partsBetween->alU,strKind->aoo
open Ne renaming symm->acb
open PySem.W renaming dictOf->ace,Frag->af7,findIn->aga,emptyDict->ah5,hasDictIn->akJ,instObj->akK,findCls->ak9,topFrame->als,SharedT->alB,specialIn->alC,looks_findIn->alS,boot_heap->al0,piece_app->al1,segRun_of->al2,takerIn->al4,Looks->amg,getL->amj,putName_dict->amt,typeIn->amw,deadEnd->amP,readsIn->anh,behindTheImports->anD,doneF->anO,looks_clsIn->anQ,notCls->anY,segRunT->aoc,plainOver->aot,keepIn->aow,plainGet_of->apg,lookIn_dict->aph,callWith_of->apj,any_some->apu,plainGet->apv,boot_drawn->ap2,set_plain->aqe,boot_toks->aqk
open PySem.Value renaming ref->acm,isStrOf->akj,none->alE,isStrOf_shape->amG,builtin->aok,isInt->aqK
open PySem.Txt renaming startswith->af6,split->ant,lower->apm
open PySem.Obj renaming mapFields->aih,putName->akN,cls_mapFields->al8,mapSeq->am9,isFreed_of_fields->an1,data_mapFields->aou
open PyProof.Rows renaming subscriptTail->aki,slot_tuple_getitem->alQ,slot_str_getitem->apw,Subscript_->apO,unpackItems_tuple->apR,getItem_str->aqw,truthy_int->aqI,add_int->aqT,sub_int->aqU,mul_int->aqV,neg_int->aqW,add_str->aqX,eq_int->aq1,ne_int->aq2,lt_int->aq3,le_int->aq4,gt_int->aq5,ge_int->aq6,eq_str->aq7,ne_str->aq8
open PySem.Challenge renaming rw_nm0165_01->akl,pw_nm0165_01->amO
open Int renaming ofNat_lt->akq,natCast_nonneg->alW,le_of_lt->anA,eq_ofNat_of_zero_le->anH,toNat_of_nonneg->aor,zero_add->aoD,lt_of_le_of_lt->aoH,self_le_toNat->ao6,negSucc->apo,natCast_pos->ap4,le_natAbs->aqt,toNat_lt->aqv,sub_zero->aqy,le_trans->aqA,sub_self->aqC,add_zero->aqD,lt_toNat->aqE,ofNat_le->aqH
open List.cons renaming inj->akt
open PySem.NameKind renaming free->aku,cell->ak8
open PySem.Value.ref renaming inj->akI
open Classical renaming byContradiction->akW,choice->apG
open PySem.Builtin.Slice renaming slicePlaces->akZ,sliceAdjust->alP,sliceApplied->am0,sliceFields->aqu
open PySem.SeqAt renaming shaped->ak3,readOf->aoC,items_eqAt->apB
open PySem.F renaming plainAttrs_list->ak7,slot_str_split->alp,plainAttrs_str->alr,args_str_split_2->alV,entry_str_split->al7,attr_ArithmeticError->amN,excBase_Exception->anf,slot_list_append->anp,slot_list_extend->anq,slot_tuple_index->anu,slot_dict_values->anv,slot_list_index->anI,slot_list_pop->an7,slot_int_rmul->an8
open Array renaming getElem?_eq_some_iff->alJ,getElem?_eq_getElem->ana,length_toList->aop,any_toList->apt,toList_inj->apE,mk->apF
open PySem.Builtin.Tuple renaming tupleExact->alX,tupleItemsOf->aqr
open PySem.W.WTm renaming value->al3
open Nat.succ renaming inj->amo
open PySem.Calls renaming Name_function_global->amq,loadGlobal_global->ao0
open PySem.Builtin.ObjectAttr renaming storeInDict->ams,find->anJ,storeInOwnDict->apl,newKeyGuard->apL,storeTaker?->apV,attrName->aqj
open PySem.Data.fields renaming inj->amv
open ForInStep renaming yield->amA
open PySem.W.WShape renaming has->amD,hasItems->ap6
open PySem.Builtin.Int renaming intBits->amE
open PySem.Heap.SameBut renaming update->amF
open PySem.ExceptHandler renaming ExceptHandler->amU
open PySem.Str renaming ofString->ano
open PySem.Around renaming under_plainId->aog
open PySem.EntryCells renaming newEntry->aol
open Std.Legacy.Range renaming forIn_eq_forIn_range'->aoq,size->aqR
open PySem.Code renaming quiet_builtin->aoA,weight->aqL,cUnits->aqM
open False renaming elim->apK
open PySem.Builtin.List renaming listSubscript?->aqg,listFitsIndex->aqo
open PySem.W.WData renaming int->aql,list->aq0
open PySem.W.Looks renaming of_pure->aqp,now->arb
open PySem.SeqAt.RcNeAt renaming lists_lengths->aqq
open Int.ofNat renaming inj->aqs
open Prod renaming ext->aqF
open PySem.IsRange renaming new->aqN
open PyProof.Rows.SCL renaming lower->aqO
open PySem.Heap.FunFrames renaming cons->aq9
open PySem.Heap.IsSliceOf renaming new->ara
abbrev VP:=@if_neg
abbrev VQ:=@beq_eq_false_iff_ne
abbrev VY:=@if_pos
abbrev WE:=@of_decide_eq_true
abbrev ab8:=@decide_eq_true
abbrev ahR:=@decide_eq_false
abbrev ah6:=@beq_self_eq_true
abbrev akm:=@decide_eq_true_eq
abbrev akP:=@beq_iff_eq
section
open PySem PySem.W
noncomputable def TP(l:List Nat):PySem.Str:=⟨⟨l⟩⟩
noncomputable def ah0(f:Nat):Nat->List Nat:=Nat.rec (λ_=>[]) (λ_ a n=>cond (VH n 0) [] (Nat.mod n 256::a (Nat.div n 256))) f
def U(n:Nat):Str:=⟨⟨ah0 200 n⟩⟩
end
section
open PySem PySem.W PyProof.Rows PySem.Calls PySem.Spec
section
section
variable{T S V R X:Sort _}{G:Prop}{a0 a1 a2 a3 a4 a5:Prop}{b0 b1 b2 b3 b4 b5:T->Prop}{c0 c1 c2 c3 c4:T->S->Prop}{d0 d1 d2 d3 d4 d5:T->S->V->Prop}{e0 e1 e2:T->S->V->R->Prop}{f0 f1 f2 f3 f4 f5 f6 f7 f8 f9:T->S->V->R->X->Prop}
theorem aU(h:∃x,b0 x/\b1 x)(k:∀x,b0 x->b1 x->G):G:=h.elim λ_ h1=>k _ h1.1 h1.2
theorem a9(h:a0/\a1)(k:a0->a1->G):G:=k h.1 h.2
theorem dH(h:a0/\∃x y,c0 x y/\c1 x y)(k:a0->∀x y,c0 x y->c1 x y->G):G:=h.2.elim λ_ h1=>h1.elim λ_ h2=>k h.1 _ _ h2.1 h2.2
theorem fw(h:a0/\a1/\a2)(k:a0->a1->a2->G):G:=k h.1 h.2.1 h.2.2
theorem hY(h:a0/\a1/\∃x,b0 x/\b1 x)(k:a0->a1->∀x,b0 x->b1 x->G):G:=h.2.2.elim λ_ h1=>k h.1 h.2.1 _ h1.1 h1.2
theorem iY(h:∃x,b0 x/\b1 x/\b2 x)(k:∀x,b0 x->b1 x->b2 x->G):G:=h.elim λ_ h1=>k _ h1.1 h1.2.1 h1.2.2
theorem hX(h:a0/\a1/\a2/\a3)(k:a0->a1->a2->a3->G):G:=k h.1 h.2.1 h.2.2.1 h.2.2.2
theorem gS(h:∃x y z,d0 x y z/\d1 x y z/\d2 x y z)(k:∀x y z,d0 x y z->d1 x y z->d2 x y z->G):G:=h.elim λ_ h1=>h1.elim λ_ h2=>h2.elim λ_ h3=>k _ _ _ h3.1 h3.2.1 h3.2.2
theorem oR(h:∃x y z,d0 x y z/\d1 x y z/\d2 x y z/\d3 x y z)(k:∀x y z,d0 x y z->d1 x y z->d2 x y z->d3 x y z->G):G:=h.elim λ_ h1=>h1.elim λ_ h2=>h2.elim λ_ h3=>k _ _ _ h3.1 h3.2.1 h3.2.2.1 h3.2.2.2
theorem qm(h:∃x,b0 x/\b1 x/\b2 x/\b3 x)(k:∀x,b0 x->b1 x->b2 x->b3 x->G):G:=h.elim λ_ h1=>k _ h1.1 h1.2.1 h1.2.2.1 h1.2.2.2
theorem nJ(h:∃x y,c0 x y/\c1 x y/\c2 x y/\c3 x y/\c4 x y)(k:∀x y,c0 x y->c1 x y->c2 x y->c3 x y->c4 x y->G):G:=h.elim λ_ h1=>h1.elim λ_ h2=>k _ _ h2.1 h2.2.1 h2.2.2.1 h2.2.2.2.1 h2.2.2.2.2
theorem uY(h:∃x y,c0 x y/\c1 x y/\c2 x y/\c3 x y)(k:∀x y,c0 x y->c1 x y->c2 x y->c3 x y->G):G:=h.elim λ_ h1=>h1.elim λ_ h2=>k _ _ h2.1 h2.2.1 h2.2.2.1 h2.2.2.2
theorem wB(h:a0/\a1/\a2/\∃x,b0 x)(k:a0->a1->a2->∀x,b0 x->G):G:=h.2.2.2.elim λ_ h1=>k h.1 h.2.1 h.2.2.1 _ h1
theorem nH(h:a0/\∃x,b0 x)(k:a0->∀x,b0 x->G):G:=h.2.elim λ_ h1=>k h.1 _ h1
theorem oQ(h:∃x y,c0 x y/\c1 x y)(k:∀x y,c0 x y->c1 x y->G):G:=h.elim λ_ h1=>h1.elim λ_ h2=>k _ _ h2.1 h2.2
theorem zx(h:a0/\∃x y,c0 x y/\c1 x y/\c2 x y/\c3 x y)(k:a0->∀x y,c0 x y->c1 x y->c2 x y->c3 x y->G):G:=h.2.elim λ_ h1=>h1.elim λ_ h2=>k h.1 _ _ h2.1 h2.2.1 h2.2.2.1 h2.2.2.2
theorem ajb(h:∃x y z,d0 x y z)(k:∀x y z,d0 x y z->G):G:=h.elim λ_ h1=>h1.elim λ_ h2=>h2.elim λ_ h3=>k _ _ _ h3
theorem aja(h:a0/\a1/\a2/\a3/\a4/\a5)(k:a0->a1->a2->a3->a4->a5->G):G:=k h.1 h.2.1 h.2.2.1 h.2.2.2.1 h.2.2.2.2.1 h.2.2.2.2.2
theorem nI(h:a0/\∃x y z,d0 x y z/\d1 x y z/\d2 x y z/\d3 x y z)(k:a0->∀x y z,d0 x y z->d1 x y z->d2 x y z->d3 x y z->G):G:=h.2.elim λ_ h1=>h1.elim λ_ h2=>h2.elim λ_ h3=>k h.1 _ _ _ h3.1 h3.2.1 h3.2.2.1 h3.2.2.2
theorem Df(h:∃x y z u v,f0 x y z u v/\f1 x y z u v/\f2 x y z u v/\f3 x y z u v/\f4 x y z u v/\f5 x y z u v/\f6 x y z u v/\f7 x y z u v/\f8 x y z u v/\f9 x y z u v)(k:∀x y z u v,f0 x y z u v->f1 x y z u v->f2 x y z u v->f3 x y z u v->f4 x y z u v->f5 x y z u v->f6 x y z u v->f7 x y z u v->f8 x y z u v->f9 x y z u v->G):G:=h.elim λ_ h1=>h1.elim λ_ h2=>h2.elim λ_ h3=>h3.elim λ_ h4=>h4.elim λ_ a=>k _ _ _ _ _ a.1 a.2.1 a.2.2.1 a.2.2.2.1 a.2.2.2.2.1 a.2.2.2.2.2.1 a.2.2.2.2.2.2.1 a.2.2.2.2.2.2.2.1 a.2.2.2.2.2.2.2.2.1 a.2.2.2.2.2.2.2.2.2
theorem uX(h:a0/\∃x,b0 x/\b1 x)(k:a0->∀x,b0 x->b1 x->G):G:=h.2.elim λ_ h1=>k h.1 _ h1.1 h1.2
theorem mG(h:∃x y,c0 x y/\c1 x y/\c2 x y)(k:∀x y,c0 x y->c1 x y->c2 x y->G):G:=h.elim λ_ h1=>h1.elim λ_ h2=>k _ _ h2.1 h2.2.1 h2.2.2
theorem Jl(h:∃x y z u v,f0 x y z u v/\f1 x y z u v/\f2 x y z u v/\f3 x y z u v/\f4 x y z u v)(k:∀x y z u v,f0 x y z u v->f1 x y z u v->f2 x y z u v->f3 x y z u v->f4 x y z u v->G):G:=h.elim λ_ h1=>h1.elim λ_ h2=>h2.elim λ_ h3=>h3.elim λ_ h4=>h4.elim λ_ a=>k _ _ _ _ _ a.1 a.2.1 a.2.2.1 a.2.2.2.1 a.2.2.2.2
theorem jO(h:a0/\a1/\∃x,b0 x/\b1 x/\b2 x)(k:a0->a1->∀x,b0 x->b1 x->b2 x->G):G:=h.2.2.elim λ_ h1=>k h.1 h.2.1 _ h1.1 h1.2.1 h1.2.2
theorem Dd(h:∃x,b0 x/\b1 x/\b2 x/\b3 x/\b4 x/\b5 x)(k:∀x,b0 x->b1 x->b2 x->b3 x->b4 x->b5 x->G):G:=h.elim λ_ h1=>k _ h1.1 h1.2.1 h1.2.2.1 h1.2.2.2.1 h1.2.2.2.2.1 h1.2.2.2.2.2
theorem s6(h:∃x y,c0 x y)(k:∀x y,c0 x y->G):G:=h.elim λ_ h1=>h1.elim λ_ h2=>k _ _ h2
theorem sZ(h:a0/\a1/\∃x,b0 x)(k:a0->a1->∀x,b0 x->G):G:=h.2.2.elim λ_ h1=>k h.1 h.2.1 _ h1
theorem wC(h:a0/\∃x y,c0 x y/\c1 x y/\c2 x y)(k:a0->∀x y,c0 x y->c1 x y->c2 x y->G):G:=h.2.elim λ_ h1=>h1.elim λ_ h2=>k h.1 _ _ h2.1 h2.2.1 h2.2.2
theorem RC(h:∃x y z,d0 x y z/\d1 x y z)(k:∀x y z,d0 x y z->d1 x y z->G):G:=h.elim λ_ h1=>h1.elim λ_ h2=>h2.elim λ_ h3=>k _ _ _ h3.1 h3.2
theorem De(h:∃x y z u,e0 x y z u)(k:∀x y z u,e0 x y z u->G):G:=h.elim λ_ h1=>h1.elim λ_ h2=>h2.elim λ_ h3=>h3.elim λ_ h4=>k _ _ _ _ h4
theorem zy(h:∃x y z u,e0 x y z u/\e1 x y z u)(k:∀x y z u,e0 x y z u->e1 x y z u->G):G:=h.elim λ_ h1=>h1.elim λ_ h2=>h2.elim λ_ h3=>h3.elim λ_ h4=>k _ _ _ _ h4.1 h4.2
theorem RE(h:∃x y z u,e0 x y z u/\e1 x y z u/\e2 x y z u)(k:∀x y z u,e0 x y z u->e1 x y z u->e2 x y z u->G):G:=h.elim λ_ h1=>h1.elim λ_ h2=>h2.elim λ_ h3=>h3.elim λ_ h4=>k _ _ _ _ h4.1 h4.2.1 h4.2.2
theorem RD(h:∃x y z,d0 x y z/\d1 x y z/\d2 x y z/\d3 x y z/\d4 x y z/\d5 x y z)(k:∀x y z,d0 x y z->d1 x y z->d2 x y z->d3 x y z->d4 x y z->d5 x y z->G):G:=h.elim λ_ h1=>h1.elim λ_ h2=>h2.elim λ_ h3=>k _ _ _ h3.1 h3.2.1 h3.2.2.1 h3.2.2.2.1 h3.2.2.2.2.1 h3.2.2.2.2.2
end
theorem cL.{u} {b:Type u}{P:List b->Prop}(nil:P []) (cons:∀a l,P (a::l)) (t:List b):P t:=List.casesOn t nil cons
theorem cO.{u} {b:Type u}{P:Option b->Prop}(none:P none) (some:∀a,P (some a)) (t:Option b):P t:=Option.casesOn t none some
theorem cN{P:Nat->Prop}(zero:P 0)(succ:∀n,P (n+1))(t:Nat):P t:=amQ t zero succ
theorem cB{P:Bool->Prop}(false:P false)(true:P true)(t:Bool):P t:=Bool.casesOn t false true
theorem wg{P:Nat->Prop}(k:Nat)(h:k < 0):P k:=absurd h (amn k)
theorem ka{P:Nat->Prop}{n:Nat}(b:∀k,k < n->P (k+1))(a:P 0)(k:Nat)(h:k < n+1):P k:=by
 induction k using cN with
 |zero=>exact a
 |succ k=>exact b k (amc h)
theorem jg{P:Nat->Prop}(a:P 0)(b:P 1)(c:P 2)(d:P 3):∀k,k < 4->P k:=ka (ka (ka (ka wg d) c) b) a
theorem zh{P:Nat->Prop}(a:P 0)(b:P 1)(c:P 2)(d:P 3)(e:P 4):∀k,k < 5->P k:=ka (jg b c d e) a
def Ke{a:Type}:Nat->(List a->Prop)->Prop
 |0,P=>P []
 |k+1,P=>∀v,Ke k λl=>P (v::l)
theorem vK{a:Type}:∀{k:Nat}{P:List a->Prop}{vs:List a},vs.length=k->Ke k P->P vs:=by
 intro k;induction k with
 |zero =>
  exact@λ_ vs e h=>by rw[List.eq_nil_of_length_eq_zero e];exact h
 |succ k b =>
  exact@λP vs e h=>by
   induction vs using cL with
   |nil=>exact absurd e (akv k).symm
   |cons v r=>exact b (P:=λl=>P (v::l)) (amo e) (h v)
theorem nK{a:Type}{b:a}{P:Prop}(h:Sa=Y b):P:=by cases h
theorem bK{b e:Type}{x:Option b}{f:b->Option e}{y:e}{P:Prop}(h:x.bind f=Y y)(k:∀a,x=Y a->f a=Y y->P):P:=by
 induction x with|none=>exact nK h|some a=>exact k a rfl h
theorem sK{e:Type}{P:e->Prop}{a b:e}(h:Y a=Y b)(k:P a):P b:=UB h▸k
@[elab_as_elim] theorem sE{α:Type}{P:α->Prop}{a b:α}(h:Y a=Y b)(k:P a):P b:=UB h▸k
@[elab_as_elim] theorem IV{α β:Type}{x:Option α}{f:α->β}{P:β->Prop}{y:β}(h:x.map f=Y y)(k:∀a,x=Y a->P (f a)):P y:=by
 induction x with|none=>exact nK h|some a=>exact sK h (k a rfl)
theorem PW{a:Type}{b:Prop} [Decidable b] {x y:a}{P:Prop}(h:(if b then Y x else Sa)=Y y) (k:b->x=y->P):P:=by
 by_cases q:b
 .rw[VY q]at h;exact k q (UB h)
 .rw[VP q]at h;exact nK h
theorem sN{a:Type}{b:a}{P:Prop}(h:Y b=Sa):P:=by cases h
theorem ttK{P:Prop}(h:W=UA):P:=by cases h
theorem bN{a:Type _}{v:a}{G:Prop}(h:Sa=Y v):G:=nomatch h
theorem gJ{a:Type _}{v:a}{G:Prop}(h:Y v=Sa):G:=nomatch h
theorem w5{P:Prop}(h:W=UA):P:=nomatch h
theorem dw{a:Type _}{v:a}{G:Prop}(h:v∈[]):G:=nomatch h
theorem kG{es n vs}{G:Prop}(h:Data.dict es n=Data.fields vs):G:=nomatch h
theorem bD{P:Prop}(h:UA=W):P:=by cases h
theorem bt{a b:Bool}{P:Prop}(h:(a&&b)=W)(k:a=W->b=W->P):P:=by
 induction a with
 |false=>exact bD h
 |true=>exact k rfl h
def eP{b:Type}(x:Option b)(K:b->Prop)(p:Prop):Prop:=match x with|some a=>K a|none=>p
theorem eT{a:Type}{x:Option a}{K:a->Prop}{q:a}(h:eP x K True)(e:x=Y q):K q:=by rw[e]at h;exact h
theorem eW{a:Type}{x:Option a}{K:a->Prop}(h:∀q,x=Y q->K q):eP x K True:=by
 cases x with|none=>exact trivial|some q=>exact h q rfl
set_option genCtorIdx true in
inductive O where
 |none|bool (b:Bool)|int (i:Int)|str (s:Str)
 |ref (k:Nat)|gl (a:VI)|bi (id:String)|ty (n:String)
 |tup (xs:List O)|lst (xs:List O)|obj (C:VI) (fs:List (Str×O))|exc (C:VI) (fs:List (Str×O))
 deriving Inhabited
set_option genCtorIdx true in
inductive MO where
 |lst (xs:List O)
 |bu (fs:List (Str×O))
 |inst (C:VI) (fs:List (Str×O))
 |exc (C:VI) (fs:List (Str×O))
 |dead
abbrev bp:=O->List MO->Prop
structure Sg where
 H:List MO
 μ:Nat->VI
 σ:VI->Option (Nat×Bool)
structure Vw where
 μ:Nat->VI
 N:Nat
 T:VI->Prop
mutual
inductive Rel (V:Vw) (h:WA):VD->O->Prop
 |none:Rel V h .none .none
 |bool (b:Bool):Rel V h (.bool b) (.bool b)
 |int (i:Int) (t:Tok):Rel V h (.int i t) (.int i)
 |str (x:Str) (t:Tok):Rel V h (.str x t) (.str x)
 |ref {k:Nat}:k < V.N->Rel V h (.ref (V.μ k)) (.ref k)
 |gl (a:VI):Rel V h (.ref a) (.gl a)
 |bi (id:String):Rel V h (.builtin id) (.bi id)
 |ty (n:String):Rel V h (.type n) (.ty n)
 |tup {a:VI}{vs:List VD}{n:Nat}{xs:List O}:¬V.T a->h.get? a=Y { cls:=.type "tuple",data:=.seq vs.toArray n}->bg V h vs xs->Rel V h (.ref a) (.tup xs)
 |lst {a:VI}{vs:List VD}{n:Nat}{xs:List O}:¬V.T a->h.get? a=Y { cls:=.type "list",data:=.seq vs.toArray n}->bg V h vs xs->Rel V h (.ref a) (.lst xs)
 |obj {a d C:VI}{es:List VM}{n:Nat}{fs:List (Str×O)}:¬V.T a->¬V.T d->h.get? a=Y (akK C d)->h.get? d=Y (ace es n)->cD V h es fs->Rel V h (.ref a) (.obj C fs)
 |exc {a d C:VI}{oe:Obj}{es:List VM}{n:Nat}{fs:List (Str×O)}:¬V.T a->¬V.T d->h.get? a=Y oe->oe.cls = .ref C->anY oe=W->oe.dict=Y d->h.get? d=Y (ace es n)->cD V h es fs->Rel V h (.ref a) (.exc C fs)
inductive bg (V:Vw) (h:WA):List VD->List O->Prop
 |nil:bg V h [] []
 |cons {v:VD}{vs:List VD}{x:O}{xs:List O}:Rel V h v x->bg V h vs xs->bg V h (v::vs) (x::xs)
inductive cD (V:Vw) (h:WA):List VM->List (Str×O)->Prop
 |nil:cD V h [] []
 |cons {hs:Int}{n:Str}{t:Tok}{v:VD}{es:List VM}{x:O}{fs:List (Str×O)}:Rel V h v x->cD V h es fs->cD V h (⟨hs,.str n t,v⟩::es) ((n,x)::fs)
end
def XO(V:Vw)(h:WA)(P:VD->Prop):O->Prop
 | .none=>P .none
 | .bool b=>P (.bool b)
 | .int i=>∀t,P (.int i t)
 | .str x=>∀t,P (.str x t)
 | .ref k=>k < V.N->P (.ref (V.μ k))
 | .gl a=>P (.ref a)
 | .bi id=>P (.builtin id)
 | .ty n=>P (.type n)
 | .tup xs=>∀a vs n,¬V.T a->h.get? a=Y { cls:=.type "tuple",data:=.seq vs.toArray n}->bg V h vs xs->P (.ref a)
 | .lst xs=>∀a vs n,¬V.T a->h.get? a=Y { cls:=.type "list",data:=.seq vs.toArray n}->bg V h vs xs->P (.ref a)
 | .obj C fs=>∀a d es n,¬V.T a->¬V.T d->h.get? a=Y (akK C d)->h.get? d=Y (ace es n)->cD V h es fs->P (.ref a)
 | .exc C fs=>∀a d e es n,¬V.T a->¬V.T d->h.get? a=Y e->e.cls = .ref C->anY e=W->e.dict=Y d->h.get? d=Y (ace es n)->cD V h es fs->P (.ref a)
def XQ(V:Vw)(h:WA)(P:List VD->Prop):List O->Prop
 | []=>P []
 |x::xs=>∀v vs,Rel V h v x->bg V h vs xs->P (v::vs)
section
variable{V:Vw}{h:WA}{v:VD}{P:VD->Prop}{vs:List VD}{Q:List VD->Prop}
@[elab_as_elim] theorem Rel.inv{x:O}(r:Rel V h v x):XO V h P x->P v:=by
 cases r<;>intro k<;>first|exact k|exact k _|exact k (by assumption)|exact k _ _ _ (by assumption) (by assumption) (by assumption)|exact k _ _ _ _ (by assumption) (by assumption) (by assumption) (by assumption) (by assumption)|exact k _ _ _ _ _ (by assumption) (by assumption) (by assumption) (by assumption) (by assumption) (by assumption) (by assumption) (by assumption)
@[elab_as_elim] theorem bg.inv{xs:List O}(r:bg V h vs xs):XQ V h Q xs->Q vs:=by
 cases r<;>intro k<;>first|exact k|exact k _ _ (by assumption) (by assumption)
@[elab_as_elim] theorem Rel.C1(r:Rel V h v .none)(k:P .none):P v:=r.inv k
@[elab_as_elim] theorem Rel.aaH{b:Bool}(r:Rel V h v (.bool b))(k:P (.bool b)):P v:=r.inv k
@[elab_as_elim] theorem Rel.d7{i:Int}(r:Rel V h v (.int i))(k:∀t,P (.int i t)):P v:=r.inv k
@[elab_as_elim] theorem Rel.i7{x:Str}(r:Rel V h v (.str x))(k:∀t,P (.str x t)):P v:=r.inv k
@[elab_as_elim] theorem Rel.i5{i:Nat}(r:Rel V h v (.ref i))(k:i < V.N->P (.ref (V.μ i))):P v:=r.inv k
@[elab_as_elim] theorem Rel.yy{a:VI}(r:Rel V h v (.gl a))(k:P (.ref a)):P v:=r.inv k
@[elab_as_elim] theorem Rel.Um{n:String}(r:Rel V h v (.ty n))(k:P (.type n)):P v:=r.inv k
@[elab_as_elim] theorem Rel.tupK{xs:List O}(r:Rel V h v (.tup xs))(k:∀a vs n,¬V.T a->h.get? a=Y { cls:=.type "tuple",data:=.seq vs.toArray n}->bg V h vs xs->P (.ref a)):P v:=r.inv k
@[elab_as_elim] theorem Rel.lstK{xs:List O}(r:Rel V h v (.lst xs))(k:∀a vs n,¬V.T a->h.get? a=Y { cls:=.type "list",data:=.seq vs.toArray n}->bg V h vs xs->P (.ref a)):P v:=r.inv k
@[elab_as_elim] theorem Rel.Jg{C:VI}{fs:List (Str×O)}(r:Rel V h v (.obj C fs))(k:∀a d es n,¬V.T a->¬V.T d->h.get? a=Y (akK C d)->h.get? d=Y (ace es n)->cD V h es fs->P (.ref a)):P v:=r.inv k
theorem Rel.int_inv{i:Int}(r:Rel V h v (.int i)):∃t,v = .int i t:=by refine r.d7 λt=>?_;exact⟨t,rfl⟩
theorem Rel.str_inv{x:Str}(r:Rel V h v (.str x)):∃t,v = .str x t:=by refine r.i7 λt=>?_;exact⟨t,rfl⟩
theorem Rel.nN{k:Nat}(r:Rel V h v (.ref k)):v = .ref (V.μ k)/\k < V.N:=by refine r.i5 λlt=>?_;exact⟨rfl,lt⟩
theorem Rel.B7{a:VI}(r:Rel V h v (.gl a)):v = .ref a:=by refine r.yy ?_;rfl
theorem Rel.JZ{n:String}(r:Rel V h v (.ty n)):v = .type n:=by refine r.Um ?_;rfl
theorem Rel.none_inv(r:Rel V h v .none):v = .none:=by refine r.C1 ?_;rfl
theorem Rel.lst_inv{xs:List O}(r:Rel V h v (.lst xs)):∃a vs n,v = .ref a/\¬V.T a/\h.get? a=Y { cls:=.type "list",data:=.seq vs.toArray n}/\bg V h vs xs:=by refine r.lstK λa vs n t g l=>?_;exact⟨a,vs,n,rfl,t,g,l⟩
theorem bg.cons_inv{x:O}{xs:List O}(r:bg V h vs (x::xs)):∃v us,vs=v::us/\Rel V h v x/\bg V h us xs:=by refine r.inv λv us a b=>?_;exact⟨v,us,rfl,a,b⟩
theorem Rel.JV{xs:List O}(r:Rel V h v (.tup xs)):∃a vs n,v = .ref a/\¬V.T a/\h.get? a=Y { cls:=.type "tuple",data:=.seq vs.toArray n}/\bg V h vs xs:=by refine r.tupK λa vs n t g l=>?_;exact⟨a,vs,n,rfl,t,g,l⟩
theorem Rel.acv{C:VI}{fs:List (Str×O)}(r:Rel V h v (.exc C fs)):∃a d b es n,v = .ref a/\¬V.T a/\¬V.T d/\h.get? a=Y b/\b.cls = .ref C/\anY b=W/\b.dict=Y d/\h.get? d=Y (ace es n)/\cD V h es fs :=r.inv (P:=λv=>∃a d b es n,v = .ref a/\¬V.T a/\¬V.T d/\h.get? a=Y b/\b.cls = .ref C/\anY b=W/\b.dict=Y d/\h.get? d=Y (ace es n)/\cD V h es fs) λa d b es n h1 h2 h3 h4 e f i j=>⟨a,d,b,es,n,rfl,h1,h2,h3,h4,e,f,i,j⟩
@[elab_as_elim] theorem bg.Q1(r:bg V h vs [])(k:Q []):Q vs:=r.inv k
@[elab_as_elim] theorem bg.A9{x:O}{xs:List O}(r:bg V h vs (x::xs))(k:∀v us,Rel V h v x->bg V h us xs->Q (v::us)):Q vs:=r.inv k
@[elab_as_elim] theorem bg.wy{x:O}(r:bg V h vs [x])(k:∀v,Rel V h v x->Q [v]):Q vs:=r.A9 λv us a b=>b.Q1 (Q:=λus=>Q (v::us)) (k v a)
@[elab_as_elim] theorem bg.w9{x y:O}(r:bg V h vs [x,y])(k:∀v w,Rel V h v x->Rel V h w y->Q [v,w]):Q vs:=r.A9 λv us a b=>b.wy (Q:=λus=>Q (v::us)) λw b=>k v w a b
theorem bg.qg{x:O}(r:bg V h vs [x]):∃v,vs=[v]/\Rel V h v x:=by refine r.wy λv a=>?_;exact⟨v,rfl,a⟩
theorem bg.xb{x y:O}(r:bg V h vs [x,y]):∃v w,vs=[v,w]/\Rel V h v x/\Rel V h w y:=by refine r.w9 λv w a b=>?_;exact⟨v,w,rfl,a,b⟩
end
def XN(V:Vw)(h:WA)(P:List VM->Prop):List (Str×O)->Prop
 | []=>P []
 |q::fs=>∀a t v es,Rel V h v q.2->cD V h es fs->P (⟨a,.str q.1 t,v⟩::es)
@[elab_as_elim] theorem cD.inv{V:Vw}{h:WA}{es:List VM}{P:List VM->Prop}{fs:List (Str×O)}(r:cD V h es fs):XN V h P fs->P es:=by
 cases r<;>intro k<;>first|exact k|exact k _ _ _ _ (by assumption) (by assumption)
theorem bg.ind{V:Vw}{h:WA}{P:List VD->List O->Prop}(e:P [] [])(h1:∀{v vs x xs},Rel V h v x->bg V h vs xs->P vs xs->P (v::vs) (x::xs)):∀{xs:List O}{vs:List VD},bg V h vs xs->P vs xs:=by
 intro xs;induction xs with
 |nil =>
  exact@λ_ r=>r.inv (Q:=λvs=>P vs []) e
 |cons x xs f =>
  exact@λ_ r=>r.inv (Q:=λvs=>P vs (x::xs)) λ_ _ a b=>h1 a b (f b)
theorem cD.ind{V:Vw}{h:WA}{P:List VM->List (Str×O)->Prop}(e:P [] [])(h1:∀{f n t v es x fs},Rel V h v x->cD V h es fs->P es fs->P (⟨f,.str n t,v⟩::es) ((n,x)::fs)):∀{fs:List (Str×O)}{es:List VM},cD V h es fs->P es fs:=by
 intro fs;induction fs with
 |nil =>
  exact@λ_ r=>r.inv (P:=λes=>P es []) e
 |cons q fs i =>
  exact@λ_ r=>r.inv (P:=λes=>P es (q::fs)) λ_ _ _ _ a b=>h1 a b (i b)
def gM(o:Obj):Prop:=∀vs,o.data ≠ .fields vs
def Rv(o:Obj):Prop:=gM o∨∃C,o.cls = .ref C
def DN(o a:Obj):Prop:=a.dict=o.dict/\(anY o=W->anY a=W)
theorem DN.trans{o a o2:Obj}(x:DN o a)(y:DN a o2):DN o o2:=⟨y.1.trans x.1,λz=>y.2 (x.2 z)⟩
theorem DN.refl{o:Obj}:DN o o:=⟨Eq.refl _,id⟩
def Ee(o a:Obj):Prop:=(gM o->a=o)/\∀C,o.cls = .ref C->a.cls = .ref C/\DN o a
theorem Ee.rfl{o:Obj}:Ee o o:=⟨λ_=>Eq.refl _,λ_ e=>⟨e,.refl⟩⟩
structure Go (V:Vw) (h:WA) (V':Vw) (h':WA):Prop where
 n:V.N<=V'.N
 mu:∀k,k < V.N->V'.μ k=V.μ k
 un:∀b o,h.get? b=Y o->¬V.T b->¬V'.T b
 keep:∀b o,h.get? b=Y o->¬V.T b->Rv o->∃o',h'.get? b=Y o'/\Ee o o'
theorem sU{o:Obj}{xs:Array VD}{n:Nat}(d:o.data = .seq xs n):gM o:=λvs q=>by rw[d]at q;cases q
section
variable{V V':Vw}{h h':WA}
theorem Go.same(G:Go V h V' h'){b:VI}{o:Obj}(t:¬V.T b)(e:h.get? b=Y o)(f:gM o):¬V'.T b/\h'.get? b=Y o:=by
 refine iY (G.keep b o e t (.inl f)) λa e' w _=>?_;rw[w f]at e';exact⟨G.un b o e t,e'⟩
theorem Rel.go(G:Go V h V' h'){v:VD}{x:O}(r:Rel V h v x):Rel V' h' v x :=
 Rel.rec (motive_1:=λv x _=>Rel V' h' v x) (motive_2:=λvs xs _=>bg V' h' vs xs) (motive_3:=λes fs _=>cD V' h' es fs)
  .none .bool .int .str (λk=>by rw[←G.mu _ k];exact .ref (VT k G.n)) .gl .bi .ty
  (λs e _ i=>.tup (G.same s e (sU rfl)).1 (G.same s e (sU rfl)).2 i) (λs e _ i=>.lst (G.same s e (sU rfl)).1 (G.same s e (sU rfl)).2 i)
  (λs f e l _ i=>.obj (G.same s e λ_ q=>nomatch q).1 (G.same f l λ_ q=>nomatch q).1 (G.same s e λ_ q=>nomatch q).2 (G.same f l λ_ q=>nomatch q).2 i)
  (λs f e j m l e2 _ i=>(G.keep _ _ e s (.inr ⟨_,j⟩)).elim λ_ z=>.exc (G.un _ _ e s) (G.same f e2 λ_ q=>nomatch q).1 z.1 (z.2.2 _ j).1 ((z.2.2 _ j).2.2 m) ((z.2.2 _ j).2.1.trans l) (G.same f e2 λ_ q=>nomatch q).2 i)
  .nil (λ_ _ a b=>.cons a b) .nil (λ_ _ a b=>.cons a b) r
theorem bg.go(G:Go V h V' h'){vs:List VD}{xs:List O}(r:bg V h vs xs):bg V' h' vs xs:=r.ind .nil λa _ i=>.cons (a.go G) i
theorem cD.go(G:Go V h V' h'){es:List VM}{fs:List (Str×O)}(r:cD V h es fs):cD V' h' es fs:=r.ind .nil λa _ i=>.cons (a.go G) i
theorem Go.refl:Go V h V h:=⟨VJ _,λ_ _=>rfl,λ_ _ _ t=>t,λb o e _ _=>⟨o,e,.rfl⟩⟩
theorem Go.stays(k:h.StaysIn h'):Go V h V h':=⟨VJ _,λ_ _=>rfl,λ_ _ _ t=>t,λb o e _ _=>⟨o,k b o e,.rfl⟩⟩
theorem bg.length{vs:List VD}{xs:List O}(r:bg V h vs xs):vs.length=xs.length:=r.ind (P:=λvs xs=>vs.length=xs.length) rfl λ_ _ i=>congrArg (· + 1) i
theorem bg.append{vs:List VD}{xs:List O}{ws:List VD}{ys:List O}(r:bg V h vs xs)(k:bg V h ws ys):bg V h (vs++ws) (xs++ys):=r.ind (P:=λvs xs=>bg V h (vs++ws) (xs++ys)) k λa _ i=>.cons a i
theorem bg.get{vs:List VD}{xs:List O}(r:bg V h vs xs):∀{k:Nat}{x:O},xs[k]?=Y x->∃v,vs[k]?=Y v/\Rel V h v x:=λ{k x}=>r.ind (P:=λvs xs=>∀k,xs[k]?=Y x->∃v,vs[k]?=Y v/\Rel V h v x) (λk e=>by rw[List.getElem?_nil]at e;cases e)
 (λa _ i k=>amQ k (λe=>⟨_,rfl,UB e▸a⟩) λk e=>i k e) k
theorem bg.drop{vs:List VD}{xs:List O}(k:Nat)(r:bg V h vs xs):bg V h (vs.drop k) (xs.drop k):=r.ind (P:=λvs xs=>∀k,bg V h (vs.drop k) (xs.drop k)) (λk=>by rw[amV,amV];exact .nil)
 (λa b i k=>amQ k (.cons a b) i) k
theorem bg.take{vs:List VD}{xs:List O}(k:Nat)(r:bg V h vs xs):bg V h (vs.take k) (xs.take k):=r.ind (P:=λvs xs=>∀k,bg V h (vs.take k) (xs.take k)) (λk=>by rw[aqm,aqm];exact .nil)
 (λa b i k=>amQ k .nil λk=>.cons a (i k)) k
theorem bg.dropLast{vs:List VD}{xs:List O}(r:bg V h vs xs):bg V h vs.dropLast xs.dropLast:=by
 rw[anZ,anZ,r.length];exact r.take _
theorem Ox(nm n:Str)(a:Int)(t:Tok)(v:VD)(es:List VM):amj nm (⟨a,.str n t,v⟩::es)=if n == nm then Y (Y v) else amj nm es:=by
 unfold amj;cases q:n == nm with
 |true =>
  rw[alh (p:=λx:VM=>x.key.isStr nm) (by exact q)];rfl
 |false =>
  rw[ali (p:=λx:VM=>x.key.isStr nm) (by show ¬(n == nm)=W;rw[q];decide)];have r:(DictEntry.mk a (.str n t) v::es).any (·.refKey)=es.any (·.refKey):=by rw[akU];rfl
  rw[r];rfl
theorem cD.find(nm:Str){es:List VM}{fs:List (Str×O)}(r:cD V h es fs){x:O}:fs.lookup nm=Y x->∃v,amj nm es=Y (Y v)/\Rel V h v x :=
 r.ind (P:=λes fs=>fs.lookup nm=Y x->∃v,amj nm es=Y (Y v)/\Rel V h v x) (λe=>nomatch e) λ{b n t v es y fs} a _ i e=>by
  rw[Ox];by_cases q:nm=n
  .subst q;rw[an0]at e;exact⟨v,VY (ah6 _),UB e▸a⟩
  .rw[VZ,VQ.mpr q]at e;rw[VQ.mpr (acb q)];exact i e
theorem cD.miss(nm:Str){es:List VM}{fs:List (Str×O)}(r:cD V h es fs):fs.lookup nm=Sa->amj nm es=Y Sa :=
 r.ind (P:=λes fs=>fs.lookup nm=Sa->amj nm es=Y Sa) (λ_=>rfl) λ{b n t v es y fs} a _ i e=>by
  rw[Ox];by_cases q:nm=n
  .subst q;rw[an0]at e;cases e
  .rw[VZ,VQ.mpr q]at e;rw[VQ.mpr (acb q)];exact i e
theorem cD.length{es:List VM}{fs:List (Str×O)}(r:cD V h es fs):es.length=fs.length:=r.ind (P:=λes fs=>es.length=fs.length) rfl λ_ _ i=>congrArg (· + 1) i
end
end
structure GC where
 prog:akH
 w:afJ
 base:WA
 os:acH
 K:af7
 KX:K.In base
 q:akH
 loose:List Str
 mg:Str->Option VD
 mb:Str->Option VD
 top:TopRead q loose mg mb base
 mods:base.get? aic≠Sa
 quiet:Bool
noncomputable def Sg.V(g:Sg)(pv:VI->Prop):Vw:=⟨g.μ,g.H.length,λa=>g.σ a≠Sa∨pv a⟩
noncomputable abbrev fY(C:VI)(a:Option VI)(t:VI):Obj:={cls:=.ref C,dict:=a,data:=.fields #[.ref t,.none,.none,.none,.bool UA,.none]}
def xk(g:Sg)(V:Vw)(h:WA)(k:Nat)(fs:List (Str×O)):Option VI->Prop
 |none=>fs=[]
 |some d=>g.σ d=Y (k,W)/\∃(es:List VM) (n:Nat),h.get? d=Y (ace es n)/\cD V h es fs
def Ok(P:abI)(g:Sg)(V:Vw)(h:WA)(k:Nat):MO->Prop
 | .lst xs=>g.σ (g.μ k)=Y (k,UA)/\∃(vs:List VD) (n:Nat),h.get? (g.μ k)=Y { cls:=.type "list",data:=.seq vs.toArray n}/\bg V h vs xs
 | .bu fs=>g.σ (g.μ k)=Y (k,UA)/\∃(es:List VM) (n:Nat),h.get? (g.μ k)=Y (ace es n)/\cD V h es fs/\KeysLit P es/\(fs.map (·.1)).Nodup
 | .inst C fs=>g.σ (g.μ k)=Y (k,UA)/\∃(d:VI) (es:List VM) (n:Nat),g.σ d=Y (k,W)/\h.get? (g.μ k)=Y (akK C d)/\h.get? d=Y (ace es n)/\cD V h es fs
 | .exc C fs=>g.σ (g.μ k)=Y (k,UA)/\∃(t:VI) (a:Option VI),h.get? (g.μ k)=Y (fY C a t)/\xk g V h k fs a
 | .dead=>True
structure Rg (c:GC) (n:Nat) (pv:VI->Prop) (fr:List Env) (A:af2) (σ:Sg) (s:VE):Prop where
 stays:c.base.StaysIn s.heap
 frames:s.heap.FunFrames c.base fr
 stack:A.frames=Y fr
 hand:c.quiet=W->A.handled=Sa
 depth:A.depth+3 * n<=950
 units:A.units+30 * n<=9000
 fy:∀env∈fr,∀L,env.frame=Y L->pv L
 dm:∀a,pv a->σ.σ a=Sa/\c.base.get? a=Sa/\∃o,s.heap.get? a=Y o/\gM o
 objs:∀k m,σ.H[k]?=Y m->Ok c.w.params σ (σ.V pv) s.heap k m
 own:∀a,σ.σ a≠Sa->c.base.get? a=Sa/\∃o,s.heap.get? a=Y o
 gens:s.gens = #[]
 os:s.os=c.os
def tH(b:Prop)(o a:Obj):Prop:=(gM o->a.data=o.data/\(b->a=o))/\∀C,o.cls = .ref C->a.cls = .ref C/\DN o a
def iz(o:Obj):Prop:=(∃vs,o.data = .fields vs)/\∃T,o.cls = .type T/\T ≠ "traceback"
def Kp(e:Prop)(h':WA)(b:VI)(o:Obj):Prop:=(Rv o->∃a,h'.get? b=Y a/\tH e o a)/\(iz o->h'.get? b=Y o)/\∃a,h'.get? b=Y a
theorem Kp.same(e:h'.get? b=Y o):Kp np h' b o:=⟨λ_=>⟨o,e,λ_=>⟨rfl,λ_=>rfl⟩,λ_ q=>⟨q,.refl⟩⟩,λ_=>e,o,e⟩
theorem gM.of(h:gM o)(e:o'.data=o.data):gM o':=λvs q=>h vs (e▸q)
theorem tH.rv(s:tH np o o')(r:Rv o):Rv o':=r.elim (λf=>.inl (f.of (s.1 f).1)) λa=>VF a λC e=>.inr ⟨C,(s.2 C e).1⟩
theorem tH.trans(x:tH np o o1)(y:tH np o1 o2):tH np o o2 :=⟨λf=>⟨(y.1 (f.of (x.1 f).1)).1.trans (x.1 f).1,λq=>((y.1 (f.of (x.1 f).1)).2 q).trans ((x.1 f).2 q)⟩,λC e=>⟨(y.2 C (x.2 C e).1).1,(x.2 C e).2.trans (y.2 C (x.2 C e).1).2⟩⟩
structure aQ (P pv:VI->Prop) (g:Sg) (h:WA) (g':Sg) (h':WA):Prop where
 n:g.H.length<=g'.H.length
 mu:∀k,k < g.H.length->g'.μ k=g.μ k
 keep:∀b o,h.get? b=Y o->¬P b->g.σ b=Sa->g'.σ b=Sa/\Kp (¬pv b) h' b o
theorem aQ.refl{P pv:VI->Prop}:aQ P pv g h g h:=⟨VJ _,λ_ _=>rfl,λb o e _ s=>⟨s,.same e⟩⟩
theorem aQ.trans{P pv:VI->Prop}(x:aQ P pv σ h ajf ajj)(y:aQ P pv ajf ajj ajg ajo):aQ P pv σ h ajg ajo:=by
 refine⟨VR x.n y.n,λk j=>(y.mu k (VT j x.n)).trans (x.mu k j),λb o e p s=>?_⟩;refine wB (x.keep b o e p s) λs1 z w f a=>?_;refine hX (y.keep b f a p s1) λD _ _ m=>?_;refine⟨D,λr=>?_,λi=>(y.keep b o (w i) p s1).2.2.1 i,m⟩;refine aU (z r) λB e1 l=>?_;refine fw (y.keep b B e1 p s1) λ_ A _=>?_;refine aU (A (l.rv r)) λC e2 E=>?_;exact⟨C,e2,l.trans E⟩
theorem aQ.weak{P a pv:VI->Prop}(x:aQ P pv σ h aje h')(k:∀b,P b->a b):aQ a pv σ h aje h' :=⟨x.n,x.mu,λb o e p=>x.keep b o e λq=>p (k b q)⟩
theorem aQ.go{P pv:VI->Prop}(S:aQ P pv σ h aje h')(j:∀b,P b->pv b):Go (σ.V pv) h (aje.V pv) h' :=
 ⟨S.n,S.mu,λb o e t=>by
  have s1:σ.σ b=Sa:=akW λq=>t (.inl q);have i:¬pv b:=λq=>t (.inr q);refine a9 (S.keep b o e (λq=>i (j b q)) s1) λa _=>?_
  exactλq=>q.elim (λz=>z a) i,λb o e t=>by
  have s1:σ.σ b=Sa:=akW λq=>t (.inl q);have i:¬pv b:=λq=>t (.inr q);refine fw (S.keep b o e (λq=>i (j b q)) s1) λ_ k _=>?_
  exactλr=>aU (k r) λl e' w=>⟨l,e',λf=>(w.1 f).2 i,w.2⟩⟩
theorem Rel.step{P pv:VI->Prop}(r:Rel (σ.V pv) h v x)(S:aQ P pv σ h aje h')(a:∀b,P b->pv b):Rel (aje.V pv) h' v x:=r.go (S.go a)
theorem bg.step{P pv:VI->Prop}(r:bg (σ.V pv) h v x)(S:aQ P pv σ h aje h')(a:∀b,P b->pv b):bg (aje.V pv) h' v x:=r.go (S.go a)
theorem cD.step{P pv:VI->Prop}(r:cD (σ.V pv) h v x)(S:aQ P pv σ h aje h')(a:∀b,P b->pv b):cD (aje.V pv) h' v x:=r.go (S.go a)
structure Fc where
 A:af2
 env:Env
 fr:List Env
 n:Nat
 pv:VI->Prop
noncomputable def Fc.fl(f:Fc):VD:=match f.env.frame with|some L=>rawInt L|none=>.none
def Fc.P(f:Fc):VI->Prop:=λb=>b=f.env.locals∨b∈f.env.cells.map (·.2)
def fq(env:Env)(h:WA)(x:Str)(v:VD):Prop:=match env.kindOf x with
 |some .local=>∃m,h.Ns env.locals m/\m x=Y v
 |some .cell=>∃a,env.cells.lookup x=Y a/\h.IsCell a (Y v)
 |some .free=>∃a,env.cells.lookup x=Y a/\h.IsCell a (Y v)
 |_=>False
abbrev Lc:=List (Str×O)
structure R (c:GC) (f:Fc) (l:Lc) (σ:Sg) (s:VE):Prop where
 g:Rg c f.n f.pv f.fr f.A σ s
 ns:∃m,s.heap.Ns f.env.locals m
 vars:∀x y,l.lookup x=Y y->∃v,fq f.env s.heap x v/\Rel (σ.V f.pv) s.heap v y
 iB:∀b∈f.env.cells.map (·.2),∃v,s.heap.IsCell b v
 own:∀b,f.P b->f.pv b
 nd:(f.env.locals::f.env.cells.map (·.2)).Nodup
 kind:f.env.scope.kind = .function
 glob:f.env.globals=akp
 lR:f.env.builtins=am7
 top:∃e0 fr' L,f.fr=e0::fr'/\e0.frame=Y L/\f.env.frame=Y L
structure XV where
 C:VI
 fs:List (Str×O)
def fO(a:WA)(e:VI)(cls fl:VD)(h:WA):Prop :=∃f vs T b ts,h.get? e=Y f/\f.cls=cls/\f.data = .fields vs/\vs[1]?=Y (.ref T)/\a.get? T=Sa/\T≠e/\h.get? T=Y b/\b.cls = .type "traceback" /\ b.data = .fields ts/\ts[3]?=Y fl
inductive dY (c:GC) (fl:VD) (V:Vw) (h:WA) (e:VD) (x:XV):Prop
 |mk (a d:VI) (oe:Obj) (vs:Array VD) (es:List VM) (n:Nat) (ea:e = .ref a) (e1:h.get? a=Y oe) (e2:oe.cls = .ref x.C) (e3:oe.dict=Y d) (e4:oe.data = .fields vs) (e5:c.base.get? a=Sa)
  (e6:h.get? d=Y (ace es n)) (e7:¬V.T a) (e8:¬V.T d) (e9:cD V h es x.fs)
  (e10:vs[1]?=Y .none∨fO c.base a (.ref x.C) .none h∨fO c.base a (.ref x.C) fl h)
theorem dY.el{c:GC}{fl:VD}{V:Vw}{h:WA}{a:VI}{x:XV}{G:Prop}(T:dY c fl V h (.ref a) x)(k:∀d b vs es n,h.get? a=Y b->b.cls = .ref x.C->b.dict=Y d->b.data = .fields vs->c.base.get? a=Sa -> h.get? d=Y (ace es n)->¬V.T a->¬V.T d->cD V h es x.fs->(vs[1]?=Y .none∨fO c.base a (.ref x.C) .none h∨fO c.base a (.ref x.C) fl h)->G):G:=by
 induction T with
 |mk a d b vs es n q e1 e2 f i j l m p w e=>have y:=akI q;clear q;subst y;exact k d b vs es n e1 e2 f i j l m p w e
abbrev QV:=O->Sg->Prop
abbrev QX:=XV->Sg->Prop
inductive qO (c:GC) (f:Fc) (l:Lc) (σ:Sg) (h₀:WA) (Q:QV) (v:VD) (s':VE):Prop
 |mk (x:O) (aje:Sg) (r:Rel (aje.V f.pv) s'.heap v x) (R':R c f l aje s') (S:aQ f.P f.pv σ h₀ aje s'.heap) (q:Q x aje)
abbrev iN(c:GC)(f:Fc)(l:Lc)(σ:Sg)(s:VE)(Q:QV):=qO c f l σ s.heap Q
inductive gz (c:GC) (f:Fc) (σ:Sg) (h₀:WA) (X:Lc->QX) (e:VD) (s':VE):Prop
 |mk (x:XV) (l':Lc) (aje:Sg) (T:dY c f.fl (aje.V f.pv) s'.heap e x) (R':R c f l' aje s') (S:aQ f.P f.pv σ h₀ aje s'.heap) (q:X l' x aje)
abbrev dI(c:GC)(f:Fc)(σ:Sg)(s:VE)(X:Lc->QX):=gz c f σ s.heap X
inductive An (c:GC) (f:Fc) (σ:Sg) (h₀:WA) (Q:Lc->Sg->Prop) (s':VE):Prop
 |mk (l':Lc) (aje:Sg) (R':R c f l' aje s') (S:aQ f.P f.pv σ h₀ aje s'.heap) (q:Q l' aje)
abbrev KL(c:GC)(f:Fc)(σ:Sg)(s:VE)(Q:Lc->Sg->Prop):=An c f σ s.heap Q
inductive KJ (c:GC) (f:Fc) (l:Lc) (σ:Sg) (h₀:WA) (Q:Sg->Prop) (s':VE):Prop
 |mk (aje:Sg) (R':R c f l aje s') (S:aQ f.P f.pv σ h₀ aje s'.heap) (q:Q aje)
abbrev KI(c:GC)(f:Fc)(l:Lc)(σ:Sg)(s:VE)(Q:Sg->Prop):=KJ c f l σ s.heap Q
def jW(c:GC)(f:Fc)(t:Sem VD)(l:Lc)(σ:Sg)(Q:QV)(X:QX):Prop :=∀s,R c f l σ s->wpAny (VL c.prog c.w) f.A t (iN c f l σ s Q) (dI c f σ s λl' x a=>l'=l/\X x a) s
abbrev bG(c:GC)(f:Fc)(e:VC)(l:Lc)(σ:Sg)(Q:QV)(X:QX):Prop:=jW c f (eval e f.env) l σ Q X
inductive Fl where
 |next|brk|ret (v:O)
def k9(V:Vw)(h:WA):aod->Fl->Prop
 | .next,.next=>True
 | .brk,.brk=>True
 | .ret v,.ret x=>Rel V h v x
 |_,_=>False
inductive Am (c:GC) (f:Fc) (σ:Sg) (h₀:WA) (Q:Fl->Lc->Sg->Prop) (fl:aod) (s':VE):Prop
 |mk (k:Fl) (l':Lc) (aje:Sg) (r:k9 (aje.V f.pv) s'.heap fl k) (R':R c f l' aje s') (S:aQ f.P f.pv σ h₀ aje s'.heap) (q:Q k l' aje)
abbrev KG(c:GC)(f:Fc)(σ:Sg)(s:VE)(Q:Fl->Lc->Sg->Prop):=Am c f σ s.heap Q
theorem vv{P:Fl->Prop}(next:P .next)(brk:P .brk)(ret:∀v,P (.ret v))(t:Fl):P t:=Fl.casesOn t next brk ret
theorem k9.nx(r:k9 V h fl .next):fl = .next:=by cases fl<;>first|rfl|exact r.elim
theorem k9.bk(r:k9 V h fl .brk):fl = .brk:=by cases fl<;>first|rfl|exact r.elim
theorem k9.rt(r:k9 V h fl (.ret x)):∃v,fl = .ret v/\Rel V h v x:=by cases fl<;>first|exact⟨_,rfl,r⟩|exact r.elim
def dZ(c:GC)(f:Fc)(t:Sem aod)(l:Lc)(σ:Sg)(Q:Fl->Lc->Sg->Prop)(X:Lc->QX):Prop :=∀s,R c f l σ s->wpAny (VL c.prog c.w) f.A t (KG c f σ s Q) (dI c f σ s X) s
def Al(c:GC)(n:Nat)(pv:VI->Prop)(fr:List Env)(A:af2)(σ:Sg)(s:VE)(Q:QV)(X:QX):alI->VE->Prop
 | .ok (.ret v),s'=>∃x a,Rel (a.V pv) s'.heap v x/\Rg c n pv fr A a s'/\aQ (λ_=>False) pv σ s.heap a s'.heap/\Q x a
 | .ok _,_=>False
 | .error e,s'=>∃x a,dY c .none (a.V pv) s'.heap e x/\Rg c n pv fr A a s'/\aQ (λ_=>False) pv σ s.heap a s'.heap/\X x a
def jV(c:GC)(n:Nat)(fv:VD)(b:List O)(σ:Sg)(Q:QV)(X:QX):Prop :=∀(pv:VI->Prop) (fr:List Env) (A:af2) (s:VE) (a:List VD),Rg c n pv fr A σ s->bg (σ.V pv) s.heap a b -> aky (VL c.prog c.w) A (.call fv ⟨a,[]⟩) (Al c n pv fr A σ s Q X) s
theorem qO.elim{c:GC}{f:Fc}{l:Lc}{σ:Sg}{b:WA}{Q:QV}{v:VD}{s':VE}{P:Prop}(h:qO c f l σ b Q v s')(k:∀x a,Rel (a.V f.pv) s'.heap v x->R c f l a s'->aQ f.P f.pv σ b a s'.heap->Q x a->P):P:=by
 cases h;exact k _ _ (by assumption) (by assumption) (by assumption) (by assumption)
theorem gz.elim{c:GC}{f:Fc}{σ:Sg}{b:WA}{X:Lc->QX}{e:VD}{s':VE}{P:Prop}(h:gz c f σ b X e s')(k:∀x l' a,dY c f.fl (a.V f.pv) s'.heap e x->R c f l' a s'->aQ f.P f.pv σ b a s'.heap->X l' x a->P):P:=by
 cases h;exact k _ _ _ (by assumption) (by assumption) (by assumption) (by assumption)
theorem An.elim{c:GC}{f:Fc}{σ:Sg}{a:WA}{Q:Lc->Sg->Prop}{s':VE}{P:Prop}(h:An c f σ a Q s')(k:∀l' b,R c f l' b s'->aQ f.P f.pv σ a b s'.heap->Q l' b->P):P:=by
 cases h;exact k _ _ (by assumption) (by assumption) (by assumption)
theorem Am.elim{c:GC}{f:Fc}{σ:Sg}{b:WA}{Q:Fl->Lc->Sg->Prop}{fl:aod}{s':VE}{P:Prop}(h:Am c f σ b Q fl s')(k:∀x l' a,k9 (a.V f.pv) s'.heap fl x->R c f l' a s'->aQ f.P f.pv σ b a s'.heap->Q x l' a->P):P:=by
 cases h;exact k _ _ _ (by assumption) (by assumption) (by assumption) (by assumption)
section
variable{M:am8}{B:af2}{V:Type}{t:Sem V}{s:VE}{E E':VD->VE->Prop}{P:V->VE->Prop}
theorem QL{b f i:Type}{p q r u:V->VE->b->f->i->Prop}(h:wpAny M B t (λv s'=>∃x y z,p v s' x y z/\q v s' x y z/\r v s' x y z/\u v s' x y z) E s)(k:∀v s' x y z,p v s' x y z->q v s' x y z->r v s' x y z->u v s' x y z->P v s')(a:∀e s',E e s'->E' e s'):wpAny M B t P E' s :=WD h (λv s' q=>q.elim λx q=>q.elim λy q=>q.elim λz q=>k v s' x y z q.1 q.2.1 q.2.2.1 q.2.2.2) a
theorem IS{Q:Sg->Prop}(h:wpAny M B t (λ_ s'=>KJ c f l σ h₀ Q s') E s)(k:∀v s' i,R c f l i s'->aQ f.P f.pv σ h₀ i s'.heap->Q i->P v s')(j:∀e s',E e s'->E' e s'):wpAny M B t P E' s :=WD h (λv s' z=>by cases z with|mk i a b d=>exact k v s' i a b d) j
theorem wh{c:GC}{f:Fc}{σ:Sg}{j:WA}{Q:Lc->Sg->Prop}(h:wpAny M B t (λ_ s'=>An c f σ j Q s') E s)(k:∀v s' l' i,R c f l' i s'->aQ f.P f.pv σ j i s'.heap->Q l' i->P v s')(l:∀e s',E e s'->E' e s'):wpAny M B t P E' s :=WD h (λv s' z=>z.elim λl' i a b d=>k v s' l' i a b d) l
theorem cH{c:GC}{f:Fc}{l:Lc}{σ:Sg}{j:WA}{Q:QV}{t:Sem VD}{P:VD->VE->Prop}(h:wpAny M B t (qO c f l σ j Q) E s)(k:∀v s' x i,Rel (i.V f.pv) s'.heap v x->R c f l i s'->aQ f.P f.pv σ j i s'.heap->Q x i->P v s')(m:∀e s',E e s'->E' e s'):wpAny M B t P E' s :=WD h (λv s' z=>z.elim λx i a b d e=>k v s' x i a b d e) m
theorem nz{c:GC}{f:Fc}{σ:Sg}{j:WA}{Q:Fl->Lc->Sg->Prop}{t:Sem aod}{P:aod->VE->Prop}(h:wpAny M B t (Am c f σ j Q) E s)(k:∀v s' x l' i,k9 (i.V f.pv) s'.heap v x->R c f l' i s'->aQ f.P f.pv σ j i s'.heap->Q x l' i->P v s')(l:∀e s',E e s'->E' e s'):wpAny M B t P E' s :=WD h (λv s' z=>z.elim λx l' i a b d e=>k v s' x l' i a b d e) l
end
section
variable{c:GC}{f:Fc}{l:Lc}{σ:Sg}{Q Q':QV}{X X':QX}
theorem jW.mono{t:Sem VD}(H:jW c f t l σ Q X)(k:∀x h,Q x h->Q' x h)(j:∀x h,X x h->X' x h):jW c f t l σ Q' X':=λs i => WD (H s i) (λv s' z=>z.elim λx h a b d e=>⟨x,h,a,b,d,k _ _ e⟩) λe s' z=>z.elim λx l' h a b d e=>⟨x,l',h,a,b,d,e.1,j _ _ e.2⟩
theorem Rg.tok{pv:VI->Prop}(h:Rg c n pv fr A σ s)(t:Nat):Rg c n pv fr A σ {s with toks:=t} :=⟨h.stays,h.frames,h.stack,h.hand,h.depth,h.units,h.fy,h.dm,h.objs,h.own,h.gens,h.os⟩
theorem R.tok(h:R c f l σ s)(t:Nat):R c f l σ {s with toks:=t}:=⟨h.g.tok t,h.ns,h.vars,h.iB,h.own,h.nd,h.kind,h.glob,h.lR,h.top⟩
theorem fq.el{env:Env}{h:WA}{x:Str}{v:VD}{G:Prop}(k:fq env h x v)(b:env.kindOf x=Y .local->∀m,h.Ns env.locals m->m x=Y v->G)(e:env.kindOf x=Y .cell->∀a,env.cells.lookup x=Y a->h.IsCell a (Y v)->G)(i:env.kindOf x=Y .free->∀a,env.cells.lookup x=Y a->h.IsCell a (Y v)->G):G:=by
 unfold fq at k;cases q:env.kindOf x with
 |none=>rw[q]at k;exact k.elim
 |some kd =>
  rw[q]at k;cases kd<;>first|exact apK k|exact k.elim λm k=>b q m k.1 k.2|exact k.elim λm k=>e q m k.1 k.2|exact k.elim λm k=>i q m k.1 k.2
theorem fq.to{env:Env}{h h':WA}{x:Str}{v:VD}(k:fq env h x v)(l:∀m,h.Ns env.locals m->m x=Y v->∃m',h'.Ns env.locals m'/\m' x=Y v)(c:∀a,env.cells.lookup x=Y a->h.IsCell a (Y v)->h'.IsCell a (Y v)):fq env h' x v :=k.el (λq m a b=>by unfold fq;rw[q];exact l m a b) (λq a b d=>by unfold fq;rw[q];exact⟨a,b,c a b d⟩) λq a b d=>by unfold fq;rw[q];exact⟨a,b,c a b d⟩
theorem gz.after{s s₁:VE}{i:Sg}{e:VD}{s':VE}{m:Lc->QX}(S:aQ f.P f.pv σ s.heap i s₁.heap)(h:dI c f i s₁ m e s'):dI c f σ s m e s' :=h.elim λx l' j a b d e=>⟨x,l',j,a,b,S.trans d,e⟩
theorem qO.after{s s₁:VE}{i:Sg}{v:VD}{s':VE}(S:aQ f.P f.pv σ s.heap i s₁.heap)(h:iN c f l i s₁ Q v s'):iN c f l σ s Q v s' :=h.elim λx j a b d e=>⟨x,j,a,b,S.trans d,e⟩
end
theorem frames_at{a h h':WA}{l:List Env}:(∀env∈l,∀L,env.frame=Y L->∀o,h.get? L=Y o->gM o->∃f,h'.get? L=Y f/\gM f)->h.FunFrames a l->h'.FunFrames a l:=by
 induction l with
 |nil=>exactλ_ _=>trivial
 |cons env rest A =>
  intro k z;refine fw z λp b y=>?_;refine uY b λL o i w x j=>?_;exact⟨p,(k env (.head _) L i o x j).elim λf q=>⟨L,f,i,w,q.1,q.2⟩,A (λe m=>k e (.tail _ m)) y⟩
section
variable{c:GC}{n:Nat}{P pv:VI->Prop}{fr:List Env}{A:af2}{σ aje:Sg}{s:VE}{h h':WA}
theorem B6(hb:h.objs.size<=b):h.get? b=Sa:=by
 cases q:h.get? b with
 |none=>rfl
 |some o=>exact absurd (WK q) (akM.mpr hb)
theorem Rg.qd(G:Rg c n pv fr A σ s)(hb:s.heap.objs.size<=b):σ.σ b=Sa:=by
 cases q:σ.σ b with
 |none=>rfl
 |some m =>
  refine VF ((G.own b (by rw[q];simp)).2) λo e=>?_;exact absurd (WK e) (akM.mpr hb)
theorem Rg.Jv(G:Rg c n pv fr A σ s)(hb:pv b):b < s.heap.objs.size:=by
 refine hY (G.dm b hb) λ_ _ o e _=>?_;exact WK e
theorem Rg.mV(G:Rg c n pv fr A σ s)(b:s.heap.objs.size<=a):c.base.get? a=Sa:=by
 cases q:c.base.get? a with
 |none=>rfl
 |some o=>exact absurd (WK (G.stays a o q)) (akM.mpr b)
theorem Rg.wt(G:Rg c n pv fr A σ s)(hb:s.heap.objs.size<=b):¬(σ.V pv).T b:=λq=>q.elim (λz=>z (G.qd hb)) λz=>absurd (G.Jv z) (akM.mpr hb)
theorem aQ.grow(k:h.StaysIn h'):aQ P pv σ h σ h' :=⟨VJ _,λ_ _=>rfl,λb o e _ s=>⟨s,.same (k b o e)⟩⟩
theorem xk.move(x:xk g V h i fs dd)(go:Go V h V' h')(f:∀b q,g.σ b=Y (i,q)->g'.σ b=Y (i,q))(k:∀b q o,g.σ b=Y (i,q)->h.get? b=Y o->gM o->h'.get? b=Y o):xk g' V' h' i fs dd:=by
 induction dd using cO with
 |none=>exact x
 |some d=>refine dH x λe es n a r=>?_;exact⟨f _ _ e,es,n,k _ _ _ e a λ_ q=>by exact kG q,r.go go⟩
theorem Ok.stays(k:h.StaysIn h')(x:Ok Ps σ V h i m):Ok Ps σ V h' i m:=by
 cases m with
 |lst xs=>refine dH x λe vs n g r=>?_;exact⟨e,vs,n,k _ _ g,r.go (Go.stays k)⟩
 |bu fs=>refine wC x λe es n g r q=>?_;exact⟨e,es,n,k _ _ g,r.go (Go.stays k),q⟩
 |inst C fs=>refine nI x λe d es n e2 g b r=>?_;exact⟨e,d,es,n,e2,k _ _ g,k _ _ b,r.go (Go.stays k)⟩
 |exc C fs=>refine dH x λe t a g r=>?_;exact⟨e,t,a,k _ _ g,r.move (Go.stays k) (λ_ _ z=>z) λ_ _ _ _ z _=>k _ _ z⟩
 |dead=>trivial
theorem Rg.grow(G:Rg c n pv fr A σ s)(k:s.heap.StaysIn h'):Rg c n pv fr A σ {s with heap:=h'} where
 stays:=λb o e=>k b o (G.stays b o e)
 frames:=G.frames.of_keeps λb o e _=>⟨o,k b o e,rfl⟩
 stack:=G.stack
 hand:=G.hand
 depth:=G.depth
 units:=G.units
 fy:=G.fy
 dm:=λa q=>hY (G.dm a q) λx y o e f=>⟨x,y,o,k a o e,f⟩
 objs:=λa m e=>(G.objs a m e).stays k
 own:=λa e=>nH (G.own a e) λx o y=>⟨x,o,k a o y⟩
 gens:=G.gens
 os:=G.os
theorem gu(h:WA)(o:Obj):h.StaysIn (h.push o):=λ_ _ e=>VX _ e
theorem Rg.push(G:Rg c n pv fr A σ s)(o:Obj):Rg c n pv fr A σ {s with heap:=s.heap.push o}:=G.grow (gu _ _)
theorem aQ.push(h:WA)(o:Obj):aQ P pv σ h σ (h.push o):=.grow (gu _ _)
noncomputable def Sg.add(g:Sg)(a:VI)(m:MO)(d:Option VI):Sg :=⟨g.H++[m],λk=>if k=g.H.length then a else g.μ k,λb=>if b=a then Y (g.H.length,UA) else if Y b=d then Y (g.H.length,W) else g.σ b⟩
theorem aQ.add(G:Rg c n pv fr A σ s)(k:s.heap.StaysIn h')(f:s.heap.objs.size<=a)(i:∀x,d=Y x->s.heap.objs.size<=x): aQ P pv σ s.heap (σ.add a m d) h':=by
 refine⟨by simp[Sg.add],λk j=>VP (abv j),λb o e _ q=>⟨?_,.same (k b o e)⟩⟩;have lt:=WK e;show(if b=a then _ else _)=Sa;rw[VP (abv (VT lt f)),VP λz=>akM.mpr (i b z.symm) lt];exact q
theorem Go.add(G:Rg c n pv fr A σ s)(k:s.heap.StaysIn h')(b:s.heap.objs.size<=a)(e:∀x,d=Y x->s.heap.objs.size<=x): Go (σ.V pv) s.heap ((σ.add a m d).V pv) h':=(aQ.add (P:=λ_=>False) G k b e).go λ_ z=>z.elim
theorem Rg.add(G:Rg c n pv fr A σ s)(k:s.heap.StaysIn h')(B:s.heap.objs.size<=a)(D:∃o,h'.get? a=Y o)
  (p:∀x,d=Y x->s.heap.objs.size<=x/\∃o,h'.get? x=Y o) (ok:Ok c.w.params (σ.add a m d) ((σ.add a m d).V pv) h' σ.H.length m):Rg c n pv fr A (σ.add a m d) {s with heap:=h'} where
 stays:=λb o e=>k b o (G.stays b o e)
 frames:=G.frames.of_keeps λb o e _=>⟨o,k b o e,rfl⟩
 stack:=G.stack
 hand:=G.hand
 depth:=G.depth
 units:=G.units
 fy:=G.fy
 dm:=λb q=>by
  refine hY (G.dm b q) λx y o e f=>?_;refine⟨?_,y,o,k b o e,f⟩;have lt:=WK e;show(if b=a then _ else _)=Sa;rw[VP (abv (VT lt B)),VP λz=>akM.mpr (p b z.symm).1 lt];exact x
 objs:=λi m' e=>by
  have L:(σ.add a m d).H=σ.H++[m]:=rfl;rw[L]at e;rcases Nat.lt_trichotomy i σ.H.length with lt|rfl|gt
  .rw[akX lt]at e;have x:=G.objs i m' e;have go:=Go.add (m:=m) G k B (λx e=>(p x e).1);have j:(σ.add a m d).μ i=σ.μ i:=VP (abv lt);have l:∀b q,σ.σ b=Y q->(σ.add a m d).σ b=Y q:=λb q z=>by
    have lt:=WK (G.own b (by rw[z];simp)).2.choose_spec;show(if b=a then _ else _)=_;rw[VP (abv (VT lt B)),VP λz=>akM.mpr (p b z.symm).1 lt];exact z
   cases m' with
   |lst xs=>refine dH x λe vs n g r=>?_;exact⟨by rw[j];exact l _ _ e,vs,n,by rw[j];exact k _ _ g,r.go go⟩
   |bu fs=>refine wC x λe es n g r q=>?_;exact⟨by rw[j];exact l _ _ e,es,n,by rw[j];exact k _ _ g,r.go go,q⟩
   |inst C fs=>refine nI x λe d es n e2 g I r=>?_;exact⟨by rw[j];exact l _ _ e,d,es,n,l _ _ e2,by rw[j];exact k _ _ g,k _ _ I,r.go go⟩
   |exc C fs=>refine dH x λe t E g r=>?_;exact⟨by rw[j];exact l _ _ e,t,E,by rw[j];exact k _ _ g,r.move go (λb q z=>l b _ z) λ_ _ _ _ z _=>k _ _ z⟩
   |dead=>trivial
  .rw[List.getElem?_concat_length]at e;have M:=UB e;clear e;subst M;exact ok
  .rw[WN (by rw[VK];simp;lia)]at e;exact bN e
 own:=λb e=>by
  have e:(if b=a then Y (σ.H.length,UA) else if Y b=d then Y (σ.H.length,W) else σ.σ b)≠Sa:=e;by_cases h1:b=a
  .subst h1;exact⟨G.mV B,D⟩
  .rw[VP h1]at e;by_cases h2:Y b=d
   .exact⟨G.mV (p b h2.symm).1,(p b h2.symm).2⟩
   .rw[VP h2]at e;refine nH (G.own b e) λx o y=>?_;exact⟨x,o,k b o y⟩
 gens:=G.gens
 os:=G.os
theorem Rel.added:Rel ((σ.add a m d).V pv) h (.ref a) (.ref σ.H.length):=by
 have:(σ.add a m d).μ σ.H.length=a:=VY rfl;have z:Rel ((σ.add a m d).V pv) h (.ref (((σ.add a m d).V pv).μ σ.H.length)) (.ref σ.H.length):=.ref (by show _ < (σ.H++[m]).length;simp)
 rwa [show((σ.add a m d).V pv).μ σ.H.length=a from this]at z
noncomputable def Sg.put(g:Sg)(k:Nat)(m:MO):Sg:={g with H:=g.H.set k m}
theorem Sg.RL(k:Nat)(m:MO):(σ.put k m).V pv=σ.V pv:=by simp[Sg.put,Sg.V]
theorem aQ.put(i:adM a h h')(f:σ.σ a≠Sa):aQ P pv σ h (σ.put k m) h' :=⟨by simp[Sg.put],λ_ _=>rfl,λb o e _ q=>⟨q,.same ((i.2 b λz=>f (z▸q)).trans e)⟩⟩
theorem Go.sameBut(i:adM a h h')(f:V.T a):Go V h V h':=⟨VJ _,λ_ _=>rfl,λ_ _ _ t=>t,λb o e t _=>⟨o,(i.2 b λz=>t (z▸f)).trans e,.rfl⟩⟩
theorem Rg.put(G:Rg c n pv fr A σ s){k:Nat}{m m₀:MO}{a:VI}{b:Bool}(B:σ.H[k]?=Y m₀)(j:adM a s.heap h')(p:σ.σ a=Y (k,b))
  (ok:Ok c.w.params σ (σ.V pv) h' k m) (E:∃o,h'.get? a=Y o):Rg c n pv fr A (σ.put k m) {s with heap:=h'} where
 stays:=λb o e=>(j.2 b λz=>by have:=(G.own a (by rw[p];simp)).1;rw[z,this]at e;exact bN e).trans (G.stays b o e)
 frames:=frames_at (λenv he L N o e S=>⟨o,(j.2 L λz=>by have:=(G.dm L (G.fy env he L N)).1;rw[z,p]at this;exact gJ this).trans e,by assumption⟩) G.frames
 stack:=G.stack
 hand:=G.hand
 depth:=G.depth
 units:=G.units
 fy:=G.fy
 dm:=λx q=>hY (G.dm x q) λu y o e f=>⟨u,y,o,(j.2 x λz=>by rw[z,p]at u;exact gJ u).trans e,f⟩
 objs:=λi m' e=>by
  rw[Sg.RL];have M:(σ.put k m).H=σ.H.set k m:=rfl;rw[M]at e;have lt:k < σ.H.length:=by
   rcases aos k σ.H.length with z|z
   .exact z
   .rw[WN z]at B;exact bN B
  by_cases hi:k=i
  .subst hi;rw[alj lt]at e;have Q:=UB e;clear e;subst Q;cases m<;>exact ok
  .rw[acF hi]at e;have x:=G.objs i m' e;have go:Go (σ.V pv) s.heap (σ.V pv) h':=Go.sameBut j (.inl (by rw[p];simp));have l:∀y q,σ.σ y=Y (i,q)->y≠a:=λy q z w=>by rw[w,p]at z;cases z;exact hi rfl
   cases m' with
   |lst xs=>refine dH x λe vs n g r=>?_;exact⟨e,vs,n,(j.2 _ (l _ _ e)).trans g,r.go go⟩
   |bu fs=>refine wC x λe es n g r q=>?_;exact⟨e,es,n,(j.2 _ (l _ _ e)).trans g,r.go go,q⟩
   |inst C fs=>refine nI x λe d es n e2 g I r=>?_;exact⟨e,d,es,n,e2,(j.2 _ (l _ _ e)).trans g,(j.2 _ (l _ _ e2)).trans I,r.go go⟩
   |exc C fs=>refine dH x λe t D g r=>?_;exact⟨e,t,D,(j.2 _ (l _ _ e)).trans g,r.move go (λ_ _ z=>z) λb q _ z w _=>(j.2 _ (l b q z)).trans w⟩
   |dead=>trivial
 own:=λx e=>⟨(G.own x e).1,by
  refine nH (G.own x e) λ_ o y=>?_;by_cases q:x=a
  .subst q;exact E
  .exact⟨o,(j.2 x q).trans y⟩⟩
 gens:=G.gens
 os:=G.os
end
section
variable{c:GC}{f:Fc}{l:Lc}{σ:Sg}{Q Q':QV}{X X':QX}
def qN(c:GC)(f:Fc)(t:VD->Sem VD)(x:O)(l:Lc)(σ:Sg)(Q:QV)(X:QX):Prop :=∀v s,R c f l σ s->Rel (σ.V f.pv) s.heap v x->wpAny (VL c.prog c.w) f.A (t v) (iN c f l σ s Q) (dI c f σ s λl' x a=>l'=l/\X x a) s
def bV(c:GC)(f:Fc)(t:VD->VD->Sem VD)(x y:O)(l:Lc)(σ:Sg)(Q:QV)(X:QX):Prop :=∀v w s,R c f l σ s->Rel (σ.V f.pv) s.heap v x->Rel (σ.V f.pv) s.heap w y->wpAny (VL c.prog c.w) f.A (t v w) (iN c f l σ s Q) (dI c f σ s λl' x a=>l'=l/\X x a) s
abbrev QB:=Bool->Sg->Prop
inductive Ak (c:GC) (f:Fc) (l:Lc) (σ:Sg) (h₀:WA) (Q:QB) (b:Bool) (s':VE):Prop
 |mk (aje:Sg) (R':R c f l aje s') (S:aQ f.P f.pv σ h₀ aje s'.heap) (q:Q b aje)
abbrev KD(c:GC)(f:Fc)(l:Lc)(σ:Sg)(s:VE)(Q:QB):=Ak c f l σ s.heap Q
theorem Ak.elim{c:GC}{f:Fc}{l:Lc}{σ:Sg}{a:WA}{Q:QB}{b:Bool}{s':VE}{P:Prop}(h:Ak c f l σ a Q b s')(k:∀e,R c f l e s'->aQ f.P f.pv σ a e s'.heap->Q b e->P):P:=by
 cases h;exact k _ (by assumption) (by assumption) (by assumption)
theorem hW{M:am8}{B:af2}{c:GC}{f:Fc}{l:Lc}{σ:Sg}{s:VE}{j:WA}{Q:QB}{E m:VD->VE->Prop}{t:Sem Bool}{P:Bool->VE->Prop}(h:wpAny M B t (Ak c f l σ j Q) E s)(k:∀v s' i,R c f l i s'->aQ f.P f.pv σ j i s'.heap->Q v i->P v s')(p:∀e s',E e s'->m e s'):wpAny M B t P m s :=WD h (λv s' z=>z.elim λi a b d=>k v s' i a b d) p
def xB(c:GC)(f:Fc)(t:Sem Bool)(l:Lc)(σ:Sg)(Q:QB)(X:QX):Prop :=∀s,R c f l σ s->wpAny (VL c.prog c.w) f.A t (KD c f l σ s Q) (dI c f σ s λl' x a=>l'=l/\X x a) s
abbrev gk(c:GC)(f:Fc)(e:VC)(l:Lc)(σ:Sg)(Q:QB)(X:QX):Prop:=xB c f (isTrue e f.env (eval e f.env)) l σ Q X
def lO(c:GC)(f:Fc)(x:O)(l:Lc)(σ:Sg)(Q:QB)(X:QX):Prop :=∀v s,R c f l σ s->Rel (σ.V f.pv) s.heap v x->wpAny (VL c.prog c.w) f.A (truthy v) (KD c f l σ s Q) (dI c f σ s λl' x a=>l'=l/\X x a) s
theorem dy(a:R c f l σ s)(r:Rel (σ.V f.pv) s.heap v x)(h:Q x σ):iN c f l σ s Q v {s with toks:=tk'} :=⟨x,σ,r,a.tok _,.refl,h⟩
theorem K3{k pos}(h:Q (.int i) σ):bG c f (.Constant (.int i) k pos) l σ Q X:=λs a=>wpAny_Constant_int (dy a (.int _ _) h)
theorem ZC{k pos}(h:Q (.str x) σ):bG c f (.Constant (.str x) k pos) l σ Q X:=λs a=>Constant_str (dy a (.str _ _) h)
theorem Zl{k pos}(h:Q (.bool b) σ):bG c f (.Constant (.bool b) k pos) l σ Q X:=λs a=>Constant_bool (dy a (.bool _) h)
theorem Zx{k pos}(h:Q .none σ):bG c f (.Constant .none k pos) l σ Q X:=λs a=>Constant_none (dy a .none h)
theorem ZG(y:l.lookup x=Y v)(h:Q v σ)(p:(x == ("__debug__" : Str))=UA)(w:(x == ("__classdict__" : Str))=UA):bG c f (.Name x pos) l σ Q X:=λs b=>by
 refine aU (b.vars _ _ y) λj k r=>?_;refine wpAny_Name ?_ p;have z:iN c f l σ s Q j s:=⟨v,σ,r,b,.refl,h⟩;exact k.el (λq m hm e=>wpAny_loadName_local b.kind q hm e z) (λq a i e=>wpAny_loadName_cell b.kind q i e z) λq a i e=>wpAny_loadName_free b.kind q i e z w
def sJ(f:Fc)(x:Str):Prop:=f.env.kindOf x=Y .globalImplicit
def pj(c:GC)(v:VD)(x:O):Prop:=∀V:Vw,(∀a,c.base.get? a≠Sa->¬V.T a)->Rel V c.base v x
theorem pj.here(r:pj c v x){pv:VI->Prop}(G:Rg c n pv fr A σ s):Rel (σ.V pv) s.heap v x :=
 (r (σ.V pv) λa q t=>by
   rcases t with t|t
   .exact q (G.own a t).1
   .exact q (G.dm a t).2.1).go (Go.stays G.stays)
theorem Zs(e:sJ f x)(hm:c.mg x=Y v)(i:pj c v av)(h:Q av σ)(b:(x == ("__debug__" : Str))=UA):bG c f (.Name x pos) l σ Q X:=λs a=>by
 refine amq a.kind e (ao0 (mg:=c.mg) ?_ hm ⟨av,σ,i.here a.g,a,.refl,h⟩) b;rw[a.glob];exact c.top.g.keeps a.g.stays
theorem Zk{a b op pos}(h:bG c f a l σ (λx j=>bG c f b l j (λy m=>bV c f (aiV op) x y l m Q X) X) X):bG c f (.BinOp a op b pos) l σ Q X:=λs E => wpAny_BinOp (cH (h s E) (λv s₁ x j rv z e A=>cH (A s₁ z) (λw B y m rw C i D => WD (D v w B C (rv.step i z.own) rw) (λ_ _ p=>p.after (e.trans i)) λ_ _ p=>p.after (e.trans i)) λ_ _ p=>p.after e) λ_ _ p=>p)
theorem Zo{a b op pos}(h:bG c f a l σ (λx j=>bG c f b l j (λy m=>bV c f (VV op) x y l m Q X) X) X)(hm:amW op b=UA):bG c f (.Compare a [op] [b] pos) l σ Q X:=λs E => wpAny_Compare1 (cH (h s E) (λv s₁ x j rv z e A=>cH (A s₁ z) (λw B y m rw C i D => WD (D v w B C (rv.step i z.own) rw) (λ_ _ p=>p.after (e.trans i)) λ_ _ p=>p.after (e.trans i)) λ_ _ p=>p.after e) λ_ _ p=>p) hm
theorem K4{a op pos}(h:bG c f a l σ (λx b=>qN c f (unaryOp op) x l b Q X) X):bG c f (.UnaryOp op a pos) l σ Q X:=λs m => UnaryOp_ (cH (h s m) (λv s₁ x b rv i e j=>WD (j v s₁ i rv) (λ_ _ p=>p.after e) λ_ _ p=>p.after e) λ_ _ p=>p)
theorem ZK{a b op pos}{Q:QB}(h:bG c f a l σ (λx j=>bG c f b l j (λy m=>bV c f (VV op) x y l m (λz C=>lO c f z l C Q X) X) X) X)(hm:amW op b=UA):gk c f (.Compare a [op] [b] pos) l σ Q X:=λs Z => wpAny_isTrue_Compare1 (cH (h s Z) (λv s₁ x j rv A e E=>cH (E s₁ A) (λw G y m rw H i I => cH (I v w G H (rv.step i A.own) rw) (λu S z C ru L B D => hW (D u S L ru) (λ_ _ M T N q=>⟨M,T,((e.trans i).trans B).trans N,q⟩) λ_ _ p=>p.after ((e.trans i).trans B)) λ_ _ p=>p.after (e.trans i)) λ_ _ p=>p.after e) λ_ _ p=>p) hm
theorem ZM{a pos}{Q:QB}(h:gk c f a l σ (λb e=>Q (!b) e) X):gk c f (.UnaryOp .Not a pos) l σ Q X:=λs i=>isTrue_not (hW (h s i) (λb s' e R S q=>⟨e,R,S,q⟩) λ_ _ p=>p)
theorem ZI{pos}{Q:QB}(h:Q W σ):gk c f (.BoolOp .And [] pos) l σ Q X:=λs a=>isTrue_and_nil ⟨σ,a,.refl,h⟩
theorem ZO{pos}{Q:QB}(h:Q UA σ):gk c f (.BoolOp .Or [] pos) l σ Q X:=λs a=>isTrue_or_nil ⟨σ,a,.refl,h⟩
theorem ZH{a rest pos}{Q:QB}(h:gk c f a l σ (λb e=>if b then gk c f (.BoolOp .And rest pos) l e Q X else Q UA e) X):gk c f (.BoolOp .And (a::rest) pos) l σ Q X:=λs z =>
 isTrue_and (hW (h s z) (λb s₁ e j i m=>by
  induction b using cB with
  |false=>exact⟨e,j,i,m⟩
  |true=>exact hW (m s₁ j) (λ_ _ w y x q=>⟨w,y,i.trans x,q⟩) λ_ _ p=>p.after i) λ_ _ p=>p)
theorem ZN{a rest pos}{Q:QB}(h:gk c f a l σ (λb e=>if b then Q W e else gk c f (.BoolOp .Or rest pos) l e Q X) X):gk c f (.BoolOp .Or (a::rest) pos) l σ Q X:=λs z =>
 isTrue_or (hW (h s z) (λb s₁ e j i m=>by
  induction b using cB with
  |true=>exact⟨e,j,i,m⟩
  |false=>exact hW (m s₁ j) (λ_ _ w y x q=>⟨w,y,i.trans x,q⟩) λ_ _ p=>p.after i) λ_ _ p=>p)
theorem ZL{t a b pos}{Q:QB}(h:gk c f t l σ (λz i=>if z then gk c f a l i Q X else gk c f b l i Q X) X):gk c f (.IfExp t a b pos) l σ Q X:=λs A =>
 isTrue_IfExp (hW (h s A) (λb s₁ i x e y=>by
  induction b using cB with
  |false=>exact hW (y s₁ x) (λ_ _ j w m q=>⟨j,w,e.trans m,q⟩) λ_ _ p=>p.after e
  |true=>exact hW (y s₁ x) (λ_ _ j w m q=>⟨j,w,e.trans m,q⟩) λ_ _ p=>p.after e) λ_ _ p=>p)
theorem ZP{e}{Q:QB}(h:bG c f e l σ (λx b=>lO c f x l b Q X) X)
  (he:∀a,isTrue e f.env a=(do let v ←a;standAt e.pos;holding [v] (truthy v))):gk c f e l σ Q X:=λs A => isTrue_plain (cH (h s A) (λv s₁ x b rv m i w=>hW (w v s₁ m rv) (λ_ _ j z y q=>⟨j,z,i.trans y,q⟩) λ_ _ p=>p.after i) λ_ _ p=>p) (he _)
theorem Zt{t a b pos}(h:gk c f t l σ (λw i=>if w then bG c f a l i Q X else bG c f b l i Q X) X):bG c f (.IfExp t a b pos) l σ Q X:=λs x =>
 IfExp_ (hW (h s x) (λb s₁ i j e m=>by
  induction b using cB with
  |false=>exact WD (m s₁ j) (λ_ _ p=>p.after e) λ_ _ p=>p.after e
  |true=>exact WD (m s₁ j) (λ_ _ p=>p.after e) λ_ _ p=>p.after e) λ_ _ p=>p)
theorem Zy{op a pos}(h:bG c f a l σ Q X):bG c f (.BoolOp op [a] pos) l σ Q X:=λs b=>BoolOp_one (h s b)
theorem Zi{a b rest pos}(h:bG c f a l σ (λx m=>lO c f x l m (λt e=>if t then bG c f (.BoolOp .And (b::rest) pos) l e Q X else Q x e) X) X):bG c f (.BoolOp .And (a::b::rest) pos) l σ Q X:=λs B =>
 BoolOp_and (cH (h s B) (λv s₁ x m rv w i z=>hW (z v s₁ w rv) (λt A e y j q=>by
  induction t using cB with
  |false=>exact⟨x,e,rv.step j w.own,y,i.trans j,q⟩
  |true=>exact WD (q A y) (λ_ _ p=>p.after (i.trans j)) λ_ _ p=>p.after (i.trans j)) λ_ _ p=>p.after i) λ_ _ p=>p)
theorem Zz{a b rest pos}(h:bG c f a l σ (λx m=>lO c f x l m (λt e=>if t then Q x e else bG c f (.BoolOp .Or (b::rest) pos) l e Q X) X) X):bG c f (.BoolOp .Or (a::b::rest) pos) l σ Q X:=λs B =>
 BoolOp_or (cH (h s B) (λv s₁ x m rv w i z=>hW (z v s₁ w rv) (λt A e y j q=>by
  induction t using cB with
  |true=>exact⟨x,e,rv.step j w.own,y,i.trans j,q⟩
  |false=>exact WD (q A y) (λ_ _ p=>p.after (i.trans j)) λ_ _ p=>p.after (i.trans j)) λ_ _ p=>p.after i) λ_ _ p=>p)
theorem xu{Q:QB}(h:Q b σ):lO c f (.bool b) l σ Q X:=λv s a r=>by refine r.aaH ?_;exact wpAny_truthy_bool ⟨σ,a,.refl,h⟩
theorem Ye{Q:QB}(h:Q UA σ):lO c f .none l σ Q X:=λv s a r=>by refine r.C1 ?_;exact truthy_none ⟨σ,a,.refl,h⟩
theorem Yd{Q:QB}(h:Q (i != 0) σ):lO c f (.int i) l σ Q X:=λv s a r=>by refine r.d7 λ_=>?_;exact aqI ⟨σ,a,.refl,h⟩
theorem Wr(h:Q (.int (a+b)) σ):bV c f (aiV .Add) (.int a) (.int b) l σ Q X:=λv w s e r i=>by refine r.d7 λ_=>i.d7 λ_=>?_;exact aqT (dy e (.int _ _) h)
theorem XB(h:Q (.int (a - b)) σ):bV c f (aiV .Sub) (.int a) (.int b) l σ Q X:=λv w s e r i=>by refine r.d7 λ_=>i.d7 λ_=>?_;exact aqU (dy e (.int _ _) h)
theorem KC(h:Q (.int (a * b)) σ)(hm:IntMulOk a b):bV c f (aiV .Mult) (.int a) (.int b) l σ Q X:=λv w s e r i=>by refine r.d7 λ_=>i.d7 λ_=>?_;exact aqV (dy e (.int _ _) h) hm
theorem WS(hq:c.quiet=W)(hb:b≠0)(i:b.natAbs < 1073741824)(h:Q (.int (a.fdiv b)) σ):bV c f (aiV .FloorDiv) (.int a) (.int b) l σ Q X:=λv w s e r j=>by
 refine r.d7 λ_=>j.d7 λ_=>?_;refine floordiv_int_or (e.g.hand hq) (λq=>absurd q hb) (λ_=>?_) λ_=>.inl (PyProof.noPylong_small i);exact dy e (.int _ _) h
theorem WT(hq:c.quiet=W)(hb:b≠0)(h:Q (.int (a.fmod b)) σ):bV c f (aiV .Mod) (.int a) (.int b) l σ Q X:=λv w s e r i=>by
 refine r.d7 λ_=>i.d7 λ_=>?_;refine mod_int_or (e.g.hand hq) (λq=>absurd q hb) λ_=>?_;exact dy e (.int _ _) h
theorem Xv(e:0<=n)(i:(amE a:Int)* n<=2 ^ 27)(h:Q (.int (a ^ n.toNat)) σ):bV c f (aiV .Pow) (.int a) (.int n) l σ Q X:=λv w s b r j=>by
 refine r.d7 λ_=>j.d7 λ_=>?_;exact pow_int e i (dy b (.int _ _) h)
theorem Xn(h:Q (.int (-a)) σ):qN c f (unaryOp .USub) (.int a) l σ Q X:=λv s b r=>by refine r.d7 λ_=>?_;exact aqW (dy b (.int _ _) h)
theorem Xp(h:lO c f x l σ (λb a=>Q (.bool (!b)) a) X):qN c f (unaryOp .Not) x l σ Q X:=λv s j r => not_of (hW (h v s j r) (λb s' a e i q=>⟨.bool (!b),a,.bool _,e,i,q⟩) λ_ _ p=>p)
theorem Wt(h:Q (.str (a++b)) σ)(i:a.length+b.length<=WI):bV c f (aiV .Add) (.str a) (.str b) l σ Q X:=λv w s e r j=>by
 refine r.i7 λ_=>j.i7 λ_=>?_;exact aqX (λ_ _=>dy e (.str _ _) h) i
theorem Wx(h:Q (.bool (a == b)) σ):bV c f (VV .Eq) (.int a) (.int b) l σ Q X:=λv w s e r i=>by refine r.d7 λ_=>i.d7 λ_=>?_;exact aq1 ⟨_,σ,.bool _,e,.refl,h⟩
theorem Xj(h:Q (.bool (a != b)) σ):bV c f (VV .NotEq) (.int a) (.int b) l σ Q X:=λv w s e r i=>by refine r.d7 λ_=>i.d7 λ_=>?_;exact aq2 ⟨_,σ,.bool _,e,.refl,h⟩
theorem Xh(h:Q (.bool (decide (a < b))) σ):bV c f (VV .Lt) (.int a) (.int b) l σ Q X:=λv w s e r i=>by refine r.d7 λ_=>i.d7 λ_=>?_;exact aq3 ⟨_,σ,.bool _,e,.refl,h⟩
theorem Xe(h:Q (.bool (decide (a<=b))) σ):bV c f (VV .LtE) (.int a) (.int b) l σ Q X:=λv w s e r i=>by refine r.d7 λ_=>i.d7 λ_=>?_;exact aq4 ⟨_,σ,.bool _,e,.refl,h⟩
theorem WV(h:Q (.bool (decide (b < a))) σ):bV c f (VV .Gt) (.int a) (.int b) l σ Q X:=λv w s e r i=>by refine r.d7 λ_=>i.d7 λ_=>?_;exact aq5 ⟨_,σ,.bool _,e,.refl,h⟩
theorem WU(h:Q (.bool (decide (b<=a))) σ):bV c f (VV .GtE) (.int a) (.int b) l σ Q X:=λv w s e r i=>by refine r.d7 λ_=>i.d7 λ_=>?_;exact aq6 ⟨_,σ,.bool _,e,.refl,h⟩
theorem WR(h:Q (.bool (a == b)) σ):bV c f (VV .Eq) (.str a) (.str b) l σ Q X:=λv w s e r i=>by refine r.i7 λ_=>i.i7 λ_=>?_;exact aq7 ⟨_,σ,.bool _,e,.refl,h⟩
theorem Xo(h:Q (.bool (a != b)) σ):bV c f (VV .NotEq) (.str a) (.str b) l σ Q X:=λv w s e r i=>by refine r.i7 λ_=>i.i7 λ_=>?_;exact aq8 ⟨_,σ,.bool _,e,.refl,h⟩
noncomputable def O.isNone:O->Bool | .none=>W|_=>UA
theorem Rel.isNone(r:Rel T h v x):(v == .none)=x.isNone:=by cases r<;>rfl
theorem Xc(h:Q (.bool x.isNone) σ):bV c f (VV .Is) x .none l σ Q X:=λv w s a r b=>by refine b.C1 ?_;exact is_none_gen ⟨_,σ,.bool _,a,.refl,by rw[r.isNone];exact h⟩
theorem Xd(h:Q (.bool (!x.isNone)) σ):bV c f (VV .IsNot) x .none l σ Q X:=λv w s a r b=>by refine b.C1 ?_;exact isnot_none_gen ⟨_,σ,.bool _,a,.refl,by rw[r.isNone];exact h⟩
variable{aje:Sg}{s:VE}{s':VE}
theorem Ns.data{h h':WA}{a:VI}{m:Str->Option VD}(x:h.Ns a m)(k:∀o,h.get? a=Y o->∃b,h'.get? a=Y b/\b.data=o.data):h'.Ns a m :=x.elim λo x=>x.elim λes x=>x.elim λe x=>(k o x.1).elim λb q=>⟨b,es,e,q.1,q.2.trans x.2.1,x.2.2⟩
theorem IsCell.data{h h':WA}{a:VI}{v:Option VD}(x:h.IsCell a v)(k:∀o,h.get? a=Y o->∃b,h'.get? a=Y b/\b.data=o.data):h'.IsCell a v :=x.elim λo x=>(k o x.1).elim λb q=>⟨b,q.1,q.2.trans x.2⟩
theorem fq.data{env:Env}{h h':WA}{x:Str}{v:VD}(k:fq env h x v)(e:∀b,(b=env.locals∨b∈env.cells.map (·.2))->∀o,h.get? b=Y o->∃i,h'.get? b=Y i/\i.data=o.data):fq env h' x v:=by
 unfold fq at k ⊢;have c:(∃a,env.cells.lookup x=Y a/\h.IsCell a (Y v))->∃a,env.cells.lookup x=Y a/\h'.IsCell a (Y v):=λk=>k.imp λa k=>⟨k.1,IsCell.data k.2 (e _ (.inr (abz.mpr ⟨_,mem_of_lookup k.1,rfl⟩)))⟩;revert k;generalize env.kindOf x=o;induction o using cO with
 |none=>exact id
 |some kd=>cases kd<;>first|exact id|exact c|exactλk=>k.imp λm k=>⟨Ns.data k.1 (e _ (.inl rfl)),k.2⟩
theorem R.move(e:R c f l σ s)(G:Rg c f.n f.pv f.fr f.A aje s')(go:Go (σ.V f.pv) s.heap (aje.V f.pv) s'.heap)
  (k:∀b,f.P b->∀o,s.heap.get? b=Y o->∃h,s'.heap.get? b=Y h/\h.data=o.data):R c f l aje s' where
 g:=G
 ns:=VF e.ns λm hm=>⟨m,Ns.data hm (k _ (.inl rfl))⟩
 vars:=λx y i=>aU (e.vars x y i) λv a r=>⟨v,a.data k,r.go go⟩
 iB:=λb q=>VF (e.iB b q) λv x=>⟨v,IsCell.data x (k b (.inr q))⟩
 own:=e.own
 nd:=e.nd
 kind:=e.kind
 glob:=e.glob
 lR:=e.lR
 top:=e.top
theorem R.grow(a:R c f l σ s)(k:s.heap.StaysIn h'):R c f l σ {s with heap:=h'} :=a.move (a.g.grow k) (Go.stays k) λb _ o e=>⟨o,k b o e,rfl⟩
theorem R.push(a:R c f l σ s)(o:Obj):R c f l σ {s with heap:=s.heap.push o}:=a.grow (gu _ _)
theorem R.add(h:R c f l σ s)(k:s.heap.StaysIn h')(j:s.heap.objs.size<=a)(i:∃o,h'.get? a=Y o)(p:∀x,d=Y x->s.heap.objs.size<=x/\∃o,h'.get? x=Y o)(ok:Ok c.w.params (σ.add a m d) ((σ.add a m d).V f.pv) h' σ.H.length m):R c f l (σ.add a m d) {s with heap:=h'}:=h.move (h.g.add k j i p ok) (Go.add h.g k j λx e=>(p x e).1) λb _ o e=>⟨o,k b o e,rfl⟩
theorem R.put(h:R c f l σ s)(y:σ.H[k]?=Y m₀)(j:adM a s.heap h')(i:σ.σ a=Y (k,b))(ok:Ok c.w.params σ (σ.V f.pv) h' k m)(p:∃o,h'.get? a=Y o):R c f l (σ.put k m) {s with heap:=h'}:=
 h.move (h.g.put y j i ok p) (by rw[Sg.RL];exact Go.sameBut j (.inl (by rw[i];simp))) λx hx o e=>⟨o,(j.2 x λz=>by
  have:=(h.g.dm x (h.own x hx)).1;rw[z,i]at this;exact gJ this).trans e,rfl⟩
inductive KH (c:GC) (f:Fc) (l:Lc) (σ:Sg) (h₀:WA) (Q:List O->Sg->Prop) (vs:List VD) (s':VE):Prop
 |mk (xs:List O) (aje:Sg) (r:bg (aje.V f.pv) s'.heap vs xs) (R':R c f l aje s') (S:aQ f.P f.pv σ h₀ aje s'.heap) (q:Q xs aje)
abbrev XM(c:GC)(f:Fc)(l:Lc)(σ:Sg)(s:VE)(Q:List O->Sg->Prop):=KH c f l σ s.heap Q
theorem wj{Q:List O->Sg->Prop}{E i:VD->VE->Prop}{t:Sem (List VD)}{P:List VD->VE->Prop}(h:wpAny M B t (KH c f l σ h₀ Q) E s)(k:∀v s' x aje,bg (aje.V f.pv) s'.heap v x->R c f l aje s'->aQ f.P f.pv σ h₀ aje s'.heap->Q x aje->P v s')(j:∀e s',E e s'->i e s'):wpAny M B t P i s:=WD h (λv s' z=>by induction z with|mk x aje a b d e=>exact k v s' x aje a b d e) j
def qP(c:GC)(f:Fc)(t:Sem (List VD))(l:Lc)(σ:Sg)(Q:List O->Sg->Prop)(X:QX):Prop :=∀s,R c f l σ s->wpAny (VL c.prog c.w) f.A t (XM c f l σ s Q) (dI c f σ s λl' x aje=>l'=l/\X x aje) s
theorem ZR{Q:List O->Sg->Prop}(h:Q [] σ):qP c f (amI []) l σ Q X:=λs a=>spliced_nil ⟨[],σ,.nil,a,.refl,h⟩
theorem ZQ{rest:List (Bool×Sem VD)}{Q:List O->Sg->Prop}(h:jW c f t l σ (λx b=>qP c f (amI rest) l b (λxs a=>Q (x::xs) a) X) X):qP c f (amI ((UA,t)::rest)) l σ Q X:=λs A => spliced_cons (cH (h s A) (λv s₁ x b rv i e m=>wj (m s₁ i) (λvs z xs a y w j q=>⟨x::xs,a,.cons (rv.step j i.own) y,w,e.trans j,q⟩) λ_ _ p=>p.after e) λ_ _ p=>p)
theorem JW(a:R c f l σ s)(r:bg (σ.V f.pv) s.heap vs xs)(n:Nat): Rel (σ.V f.pv) (s.heap.push {cls:=.type "tuple",data:=.seq vs.toArray n}) (.ref s.heap.objs.size) (.tup xs):=.tup (a.g.wt (VJ _)) (WQ _ rfl) (r.go (Go.stays (gu _ _)))
theorem ZF(h:qP c f (amI (amr pos (alk elts f.env))) l σ (λxs aje=>xs.length<=WI/\Q (.tup xs) aje) X):bG c f (.Tuple elts k pos) l σ Q X:=λs i =>
 wpAny_Tuple (wj (h s i) (λvs s₁ xs b r a e j=>a9 j λz q=>⟨by rw[r.length];exact z,.tup xs,b,JW a r _,a.push _,e.trans (aQ.push _ _),q⟩) λ_ _ p=>p)
noncomputable def Sg.news(g:Sg)(a:VI)(m:MO):Sg:=g.add a m Sa
theorem CT(a:R c f l σ s)(r:bg (σ.V f.pv) s.heap vs xs): R c f l (σ.add s.heap.objs.size (.lst xs) Sa) {s with heap:=s.heap.push {cls:=.type "list",data:=.seq vs.toArray} } /\ Rel ((σ.add s.heap.objs.size (.lst xs) Sa).V f.pv) (s.heap.push {cls:=.type "list",data:=.seq vs.toArray}) (.ref s.heap.objs.size) (.ref σ.H.length) /\ aQ f.P f.pv σ s.heap (σ.add s.heap.objs.size (.lst xs) Sa) (s.heap.push {cls:=.type "list",data:=.seq vs.toArray}):=by
 have b:(σ.add s.heap.objs.size (.lst xs) Sa).μ σ.H.length=s.heap.objs.size:=VY rfl;refine⟨a.add (gu _ _) (VJ _) ⟨_,WQ _ rfl⟩ (λ_ e=>by exact bN e) ⟨?_,vs,0,?_,?_⟩,Rel.added,aQ.add a.g (gu _ _) (VJ _) λ_ e=>by exact bN e⟩
 .rw[b];exact VY rfl
 .rw[b];exact WQ _ rfl
 .exact r.go (Go.add a.g (gu _ _) (VJ _) λ_ e=>by exact bN e)
theorem Zv(h:qP c f (amI (amr pos (alk elts f.env))) l σ (λxs aje=>xs.length<=WI/\∀e:Sg,e.H=aje.H++[.lst xs]->Q (.ref aje.H.length) e) X):bG c f (.List elts pos) l σ Q X:=λs j =>
 wpAny_List (wj (h s j) (λvs s₁ xs i r a b m=>a9 m λz q=>⟨by rw[r.length];exact z,_,_,(CT a r).2.1,(CT a r).1,b.trans (CT a r).2.2,q _ rfl⟩) λ_ _ p=>p)
theorem E5(a:R c f l σ s): R c f l (σ.add s.heap.objs.size (.bu []) Sa) {s with heap:=s.heap.push {cls:=.type "dict",data:=.dict #[]} } /\ Rel ((σ.add s.heap.objs.size (.bu []) Sa).V f.pv) (s.heap.push {cls:=.type "dict",data:=.dict #[]}) (.ref s.heap.objs.size) (.ref σ.H.length) /\ aQ f.P f.pv σ s.heap (σ.add s.heap.objs.size (.bu []) Sa) (s.heap.push {cls:=.type "dict",data:=.dict #[]}):=by
 have b:(σ.add s.heap.objs.size (.bu []) Sa).μ σ.H.length=s.heap.objs.size:=VY rfl;refine⟨a.add (gu _ _) (VJ _) ⟨_,WQ _ rfl⟩ (λ_ e=>by exact bN e) ⟨?_,[],0,?_,.nil,trivial,.nil⟩,Rel.added,aQ.add a.g (gu _ _) (VJ _) λ_ e=>by exact bN e⟩
 .rw[b];exact VY rfl
 .rw[b];exact WQ _ rfl
theorem Zq(h:∀b:Sg,b.H=σ.H++[.bu []]->Q (.ref σ.H.length) b):bG c f (.Dict [] [] pos) l σ Q X:=λs a => wpAny_Dict_empty ⟨_,_,(E5 a).2.1,(E5 a).1,(E5 a).2.2,h _ rfl⟩
end
noncomputable def cC(name:Str)(x:O):List (Str×O)->List (Str×O)
 | []=>[(name,x)]
 |(n,y)::r=>if n == name then(n,x)::r else(n,y)::cC name x r
theorem cD.put(r:Rel V h v x)(R:cD V h es fs):cD V h (putL name hs (.str name t) v es) (cC name x fs) :=
 R.ind (P:=λes fs=>cD V h (putL name hs (.str name t) v es) (cC name x fs)) (.cons r .nil) λ{e n f w es y fs} a b i=>by
  show cD V h (if (n == name)=W then⟨e,.str n f,v⟩::es else⟨e,.str n f,w⟩::putL name hs (.str name t) v es) (if (n == name)=W then(n,x)::fs else(n,y)::cC name x fs);by_cases q:(n == name)=W
  .rw[VY q,VY q];exact .cons r b
  .rw[VP q,VP q];exact .cons a i
theorem aeC{a:Type}{b:Bool}{x y:a}{P:a->Prop}(h:P x)(k:P y):P (if b=W then x else y):=by
 cases b
 .exact k
 .exact h
theorem aeD{a:Type}{b:Bool}{x y:a}{P:a->Prop}(h:b=W->P x)(k:b=UA->P y):P (if b=W then x else y):=by
 cases b
 .exact k rfl
 .exact h rfl
theorem Ql{a:Type}{b:Bool}{x y:a}{P:a->Prop}{G:Prop}(h:P (if b=W then x else y))(k:b=W->P x->G)(e:b=UA->P y->G):G:=by
 cases b
 .exact e rfl h
 .exact k rfl h
theorem wc{a:Type}{c:Prop} [Decidable c] {x y:a}{P:a->Prop}(h:c->P x) (k:¬c->P y):P (if c then x else y):=by
 by_cases q:c
 .rw[VY q];exact h q
 .rw[VP q];exact k q
theorem agq(name:Str)(a:Int)(k v:VD):∀es:List VM,(putL name a k v es).length<=es.length+1:=by
 intro es;induction es with
 |nil =>
  exact VJ _
 |cons e r b =>
  exact aeC (P:=λl:List VM=>l.length<=(e::r).length+1) (alm _) (akL b)
theorem adv{es:List VM}(a:(amj name es).isSome=W):(!es.any (·.key.isStr name)&&es.any (·.refKey))=UA:=by
 unfold amj at a;cases he:es.find? (·.key.isStr name) with
 |some en=>rw[ani.mpr ⟨en,List.mem_of_find?_eq_some he,List.find?_some he⟩];rfl
 |none =>
  rw[he]at a;cases z:es.any (·.refKey) with
  |false=>rw[ap7]
  |true=>rw[z]at a;exact bD a
theorem cD.Oy(name:Str)(r:cD V h es fs):(amj name es).isSome=W:=by
 cases q:fs.lookup name with
 |none=>rw[cD.miss name r q];rfl
 |some x=>refine aU (cD.find name r q) λv e _=>?_;rw[e];rfl
section
variable{prog:akH}{w:afJ}{A:af2}{E:VD->VE->Prop}{s:VE}{K:af7}{x C dx:VI}{ox:Obj}{es:List VM}{n:Nat}{name:Str}{v:VD}
theorem JJ{P:Fin->VE->Prop}{b:VD->VE->Prop}(D:s.heap.get? dx=Y (ace es n))(e:(amj name es).isSome=W)(f:es.length<=900)(h:P (.done (.ret .none)) {s with heap:=s.heap.update dx (akN name (acC w.params name) (.str name s.toks) v),toks:=s.toks+1}): wpAny (VL prog w) A' (ams dx (.str name tk) name v) P b s:=by
 unfold ams apL;refine wpAny_bind (wpAny_pure (wpAny_bind ?_));unfold nsSet;refine wpAny_bind (wpAny_bind (wpAny_askSetting (wpAny_pure (wpAny_bind (wpAny_mkText (wpAny_bind (amJ (s:={s with toks:=s.toks+1}) D ?_)))))));dsimp only;rw[aRefKeyMayBeTheName_at,←apt,←apt,adv e];have a:(s.heap.update dx (akN name (acC w.params name) (.str name s.toks) v)).get? dx=Y (akN name (acC w.params name) (.str name s.toks) v (ace es n)) :=
  akg _ D (by rw[amt];rfl)
 refine wpAny_updatePart D ?_;refine wpAny_bind (wpAny_lookBehind a (by rw[amt];exact pastItsLine_dict (by rw[VN,sizeLine_eq];have:=agq name (acC w.params name) (.str name s.toks) v es;lia)) ?_);exact wpAny_pure h
theorem afX{R:alI->VE->Prop}(X:K.In s.heap)(I:InstAt s.heap x ox C (Y (ace es n)))(f:ox.dict=Y dx)(l:aot K C=W)(m:al4 K C name=Y Sa)(hh:akJ K C=W)(j:(amj name es).isSome=W)(p:es.length<=900)(h:R (.ok (.ret .none)) {s with heap:=s.heap.update dx (akN name (acC w.params name) (.str name s.toks) v),toks:=s.toks+1}): aky (VL prog w) A (.call (.builtin "object.__setattr__") ⟨[.ref x,.str name tk,v],[]⟩) R s:=by
 refine osa_open X I l m λb=>?_;refine aU (apu hh) λG i e=>?_;obtain⟨hx,jA,H,D⟩:=I;obtain⟨L,z,y,B⟩:=ox;dsimp only at jA f;subst jA f;refine wpAny_bind (wpAny_pure (wpAny_bind (wpAny_bind (amJ hx (wpAny_bind ((anQ X i).here ?_))))));rw[e];exact wpAny_pure (a:=Y dx) (JJ D j p h)
theorem ahw{Q:Unit->VE->Prop}(X:K.In s.heap)(I:InstAt s.heap x ox C (Y (ace es n)))(a:ox.dict=Y dx)(f:aga K (.ref C) "__setattr__" = Y (Y (.builtin "object.__setattr__")))(e:aot K C=W)(i:al4 K C name=Y Sa)(hh:akJ K C=W)(b:(amj name es).isSome=W)(j:es.length<=900)(h:∀t,Q () {s with heap:=s.heap.update dx (akN name (acC w.params name) (.str name t) v),toks:=s.toks+2}): wpAny (VL prog w) A (aoK (.ref x) name v) Q E s:=aqe X I f (afX (s:={s with toks:=s.toks+1}) X I a e i hh b j (h _))
end
noncomputable def O.wq:O->Bool | .bi _=>UA|_=>W
theorem Rel.handed(r:Rel V h v x)(k:x.wq=W):handedIn v=W:=by cases r<;>first|rfl|exact bD k
structure jq (K:af7) (C:VI):Prop where
 get:apv K C "" = W
 set:aga K (.ref C) "__setattr__" = Y (Y (.builtin "object.__setattr__"))
 over:aot K C=W
 dict:akJ K C=W
def tu(K:af7)(C:VI)(n:Str):Prop:=aga K (.ref C) n=Y Sa/\al4 K C n=Y Sa
section
variable{c:GC}{f:Fc}{l:Lc}{σ aje:Sg}{s s':VE}{Q Q':QV}{X X':QX}
theorem ia{pv:VI->Prop}(G:Rg c n pv fr A σ s):c.K.In s.heap:=c.KX.keeps G.stays
theorem QD{E:VD->VE->Prop}{P:VD->VE->Prop}(a:c.K.In s.heap)(e1:s.heap.get? x=Y (akK C dx))(e2:s.heap.get? dx=Y (ace es n))(ok:jq c.K C)(e:tu c.K C name)(r:cD V s.heap es fs)(i:fs.lookup name=Y y)(j:y.wq=W)(h:∀v,Rel V s.heap v y->P v {s with toks:=s.toks+1}): wpAny (VL c.prog c.w) A (amK (.ref x) name expr) P E s:=by
 refine aU (cD.find name r i) λv b rv=>?_;exact get_value a (I:=⟨e1,rfl,rfl,e2⟩) (od:=Y (ace es n)) (apg (name:="") ok.get).1 (findObj_own ok.dict e.1 (by rfl) (by rw[aph];exact b)) (rv.handed j) (h v rv)
theorem Ww(m:σ.H[k]?=Y (.inst C fs))(ok:jq c.K C)(i:tu c.K C name)(p:fs.lookup name=Y y)(w:y.wq=W)(h:Q y σ): qN c f (λv=>amK v name b) (.ref k) l σ Q X:=λv s a r=>by
 refine r.i5 λ_=>?_;refine nI (a.g.objs k _ m) λe d es n e2 g j r=>?_;exact QD (ia a.g) g j ok i r p w λv rv=>dy a rv h
theorem Wv(ok:jq c.K C)(e:tu c.K C name)(j:fs.lookup name=Y y)(m:y.wq=W)(h:Q y σ): qN c f (λv=>amK v name b) (.obj C fs) l σ Q X:=λv s a r=>by
 refine r.Jg λ_ _ _ _ _ _ g i r=>?_;exact QD (ia a.g) g i ok e r j m λv rv=>dy a rv h
def Aj(c:GC)(f:Fc)(t:VD->VD->Sem Unit)(x y:O)(l:Lc)(σ:Sg)(Q:Sg->Prop)(X:QX):Prop :=∀v w s,R c f l σ s->Rel (σ.V f.pv) s.heap v x->Rel (σ.V f.pv) s.heap w y->wpAny (VL c.prog c.w) f.A (t v w) (λ_ s'=>KI c f l σ s Q s') (dI c f σ s λl' x aje=>l'=l/\X x aje) s
theorem RN{g:Obj->Obj}(x:R c f l σ s)(y:σ.H[k]?=Y m₀)(i:σ.σ d=Y (k,b))(e:s.heap.get? d=Y (ace es n))(j:g (ace es n)=ace es' n')(ok:∀h',h'.get? d=Y (ace es' n')->adM d s.heap h'->Go (σ.V f.pv) s.heap (σ.V f.pv) h'->Ok c.w.params σ (σ.V f.pv) h' k m)(t:Nat): R c f l (σ.put k m) {s with heap:=s.heap.update d g,toks:=t}/\aQ f.P f.pv σ s.heap (σ.put k m) (s.heap.update d g):=by
 have h:(s.heap.update d g).get? d=Y (ace es' n'):=by rw[←j];exact akg _ e (by rw[j];rfl)
 have a:=amF s.heap d g;have p:σ.σ d≠Sa:=by rw[i];simp
 exact⟨(x.put y a i (ok _ h a (Go.sameBut a (.inl p))) ⟨_,h⟩).tok t,aQ.put a p⟩
theorem Xw{Q:Sg->Prop}(p:σ.H[k]?=Y (.inst C fs))(ok:jq c.K C)(A:tu c.K C name)(B:fs.length<=900)(h:∀x:Sg,x.H=σ.H.set k (.inst C (cC name y fs))->Q x):Aj c f (λv w=>aoK v name w) (.ref k) y l σ Q X:=λv w s i r D=>by
 refine r.i5 λ_=>?_;refine nI (i.g.objs k _ p) λe d es n e2 g j r=>?_;refine ahw (ia i.g) (I:=⟨g,rfl,rfl,j⟩) rfl ok.set ok.over A.2 ok.dict (r.Oy name) (by rw[r.length];exact B) λt=>?_;obtain⟨a,b⟩:=RN (m:=.inst C (cC name y fs)) (g:=akN name (acC c.w.params name) (.str name t) w) i p e2 j (amt _ _ _ _ _ _) (λh' z E go =>
  ⟨e,d,_,_,e2,(E.2 _ λq=>by rw[show σ.μ k=d from q,e2]at e;cases e).trans g,z,cD.put (D.go go) (r.go go)⟩) (s.toks+2)
 exact⟨_,a,b,h _ rfl⟩
end
theorem ah4(e:VC)(o i:VD):∃f,subscripted e UA o i=operate f (ang o i):=by
 cases e<;>first|exact⟨_,rfl⟩|skip
 rename_i a b st p
 cases st<;>exact⟨_,rfl⟩
section
variable{prog:akH}{w:afJ}{A:af2}{E:VD->VE->Prop}{s:VE}
theorem o7{b a:VC}{o i:VD}{T id:String}{Q:VD->VE->Prop}(e:s.TypeIs o T)(j:apM (.type T) "__getitem__" = pure (Y (.builtin id)))(f:wpAny (VL prog w) A (ang o i) Q E s):wpAny (VL prog w) A (aki b a o i) Q E s:=
 let ⟨_,h⟩:=ah4 a o i
 tail_any e j f h
end
noncomputable def oS(xs:List O)(lo hi st:Option Int):List O :=(apN (akO lo hi st xs.length).1 (akO lo hi st xs.length).2.1 (akO lo hi st xs.length).2.2).filterMap (xs[·]?)
theorem bg.pick(r:bg V h vs xs):∀(is:List Nat),bg V h (is.filterMap (vs[·]?)) (is.filterMap (xs[·]?))
 | []=>.nil
 |i::is=>by
  simp only[alM];cases q:xs[i]? with
  |none =>
   have:vs[i]?=Sa:=by
    rw[aat]at q ⊢;rw[r.length];exact q
   rw[this];exact r.pick is
  |some x =>
   refine aU (r.get q) λv e rv=>?_;rw[e];exact .cons rv (r.pick is)
section
variable{c:GC}{f:Fc}{l:Lc}{σ aje:Sg}{s s':VE}{Q Q':QV}{X X':QX}
theorem ZD(h:bG c f value l σ (λx e=>bG c f slice l e (λy i=>bV c f (aki value slice) x y l i Q X) X) X):bG c f (.Subscript value slice pos) l σ Q X:=λs C => apO (cH (h s C) (λv s₁ x e rv j a m=>cH (m s₁ j) (λw z y i rw A b B => WD (B v w z A (rv.step b j.own) rw) (λ_ _ p=>p.after (a.trans b)) λ_ _ p=>p.after (a.trans b)) λ_ _ p=>p.after a) λ_ _ p=>p)
theorem afD{i n:Int}(h:0<=i+n): -n<=i:=by lia
theorem idx_int(e:ahS i n=Y j):(0<=i/\j=i.toNat/\j < n)∨(i < 0 /\ -(n:Int)<=i/\j=(i+n).toNat/\j < n):=by
 unfold ahS at e;by_cases h:i < 0
 .rw[VY h]at e;exact PW e λq e=>bt q λa b=>.inr ⟨h,afD (WE a),e.symm,e▸(aqv (WE a)).mpr (WE b)⟩
 .rw[VP h]at e;exact PW e λq e=>bt q λa b=>.inl ⟨WE a,e.symm,e▸(aqv (WE a)).mpr (WE b)⟩
theorem list_item{b:akH}{w:afJ}{A:af2}{E:VD->VE->Prop}{s:VE}{a:VI}{vs:List VD}{n:Nat}{o:Obj}{i:Int}{t:Tok}{j:Nat}{v:VD}{P:VD->VE->Prop}(g:s.heap.get? a=Y o)(y:o.cls = .type "list")(z:o.data = .seq vs.toArray n)(e:ahS i vs.length=Y j)(lo : -(2 ^ 63)<=i)(hi:i < 2 ^ 63)(x:vs[j]?=Y v)(h:P v s):wpAny (VL b w) A (ang (.ref a) (.int i t)) P E s:=by
 have p:s.heap.IsList a vs.toArray:=⟨o,g,y,n,z⟩;rcases idx_int e with ⟨m,rfl,_⟩|⟨m,h1,rfl,_⟩
 .exact wpAny_getItem_list p m hi (by simpa using x) h
 .exact wpAny_getItem_list_neg p m (by simpa using h1) lo (by simpa using x) h
theorem XI(e:ahS i xs.length=Y j)(lo : -(2 ^ 63)<=i)(hi:i < 2 ^ 63)(p:xs[j]?=Y y)(h:Q y σ): bV c f (aki value slice) (.tup xs) (.int i) l σ Q X:=λv w s b r x=>by
 refine x.d7 λt=>r.tupK λ_ _ _ A g r=>?_;refine aU (r.get p) λu m z=>?_;have a:IsTup s.heap _ _:=⟨_,g,rfl,_,rfl⟩;exact o7 a.typeIs alQ.lookup (getItem_tuple a lo hi (by rw[VN,r.length];exact e) (by simpa using m) (dy b z h))
theorem XF{b a:VC}{xs:List O}{i:Int}{j:Nat}{y:O}(e:ahS i xs.length=Y j)(lo : -(2 ^ 63)<=i)(hi:i < 2 ^ 63)(z:xs[j]?=Y y)(h:Q y σ): bV c f (aki b a) (.lst xs) (.int i) l σ Q X:=λv w s m r A=>by
 refine A.d7 λt=>r.lstK λ_ _ _ C g r=>?_;refine aU (r.get z) λu x B=>?_;have p:s.heap.IsList _ _:=⟨_,g,rfl,_,rfl⟩;exact o7 p.typeIs am3.lookup (list_item g rfl rfl (by rw[r.length];exact e) lo hi x (dy m B h))
theorem XG{b a:VC}{k:Nat}{xs:List O}{i:Int}{j:Nat}{y:O}(p:σ.H[k]?=Y (.lst xs))(e:ahS i xs.length=Y j)(lo : -(2 ^ 63)<=i)(hi:i < 2 ^ 63)(A:xs[j]?=Y y)(h:Q y σ): bV c f (aki b a) (.ref k) (.int i) l σ Q X:=λv w s m r B=>by
 refine B.d7 λt=>r.i5 λ_=>?_;refine dH (m.g.objs k _ p) λ_ vs n g r=>?_;refine aU (r.get A) λu z C=>?_;have x:s.heap.IsList _ vs.toArray:=⟨_,g,rfl,_,rfl⟩;exact o7 x.typeIs am3.lookup (list_item g rfl rfl (by rw[r.length];exact e) lo hi z (dy m C h))
theorem XH(lo : -(2 ^ 63)<=i)(hi:i < 2 ^ 63)(e:(ahS i x.length).bind (x.cps[·]?)=Y ch)(h:Q (.str ⟨#[ch]⟩) σ): bV c f (aki value slice) (.str x) (.int i) l σ Q X:=λv w s a r b=>by
 refine b.d7 λt=>r.i7 λj=>?_;exact o7 (amu s x j) apw.lookup (aqw (by simp;lia) e (dy a (.str _ _) h))
theorem IW{P:akH}{w:afJ}{V:Vw}{h h':WA}{a:VI}{es:List VM}{n:Nat}{fs:List (Str×O)}(e:h'.get? a=Y (ace es n))(r:cD V h es fs)(b:KeysLit w.params es): h'.MapOf (strKind P w) a (λk=>apP akj es.toArray k):=
 ⟨_,es.toArray,n,e,⟨rfl,rfl,rfl⟩,rfl,λe he=>by
  refine oQ (b.all e (by simpa using he)) λx t e1 e2=>?_;exact⟨x,by rw[e1];exact ala P w x t,e2⟩,λ_=>rfl⟩
theorem yr(name:Str)(es:List VM)(v:Option VD)(e:amj name es=Y v):apP akj es.toArray name=v:=by
 have q:(λd:VM=>akj name d.key)=λd=>d.key.isStr name:=funext λd=>(isStr_of name d.key).symm;unfold apP;rw[List.find?_toArray,q];unfold amj at e;cases h':es.find? (·.key.isStr name) with
 |some e'=>rw[h']at e;exact UB e
 |none=>rw[h']at e;exact Ql (P:=(· = Y v)) e (λ_ e=>bN e) λ_ e=>UB e
theorem XD{b a:VC}{k:Nat}{fs:List (Str×O)}{x:Str}{y:O}(i:σ.H[k]?=Y (.bu fs))(m:fs.lookup x=Y y)(h:Q y σ): bV c f (aki b a) (.ref k) (.str x) l σ Q X:=λv w s e r z=>by
 refine z.i7 λt=>r.i5 λ_=>?_;refine zx (e.g.objs k _ i) λ_ es n g r p _=>?_;refine aU (r.find x m) λu j A=>?_;have hm:=IW (P:=c.prog) g r p;exact o7 hm.typeIs am4.lookup (anj (ala _ _ x t) hm (yr _ _ _ j) (dy e A h))
set_option genCtorIdx true in
inductive AK where
 |int (i:Int)|str (s:Str)
 deriving DecidableEq
noncomputable def AK.av:AK->O | .int i=>.int i | .str s=>.str s
inductive tG:O->Option Int->Prop
 |none:tG .none Sa
 |int (i:Int):tG (.int i) (Y i)
def vp(c:GC)(f:Fc)(e:Option VC)(l:Lc)(σ:Sg)(Q:QV)(X:QX):Prop:=jW c f (evalPart e f.env) l σ Q X
theorem ZS(h:Q .none σ):vp c f Sa l σ Q X:=λs a=>wpAny_pure (dy a .none h)
theorem ZT{e}(h:bG c f e l σ Q X):vp c f (Y e) l σ Q X:=h
theorem Iv(r:Rel V h v x)(p:tG x o):ank v o:=by cases p<;>cases r<;>constructor
def vh(c:GC)(f:Fc)(b a:VC)(x:O)(lo hi st:Option Int)(l:Lc)(σ:Sg)(Q:QV)(X:QX):Prop :=∀v sl e h vs s,R c f l σ s->Rel (σ.V f.pv) s.heap v x->s.heap.IsSliceOf sl e h vs->ank e lo->ank h hi->ank vs st -> wpAny (VL c.prog c.w) f.A (aki b a v (.ref sl)) (iN c f l σ s Q) (dI c f σ s λl' x aje=>l'=l/\X x aje) s
theorem ZA{j:VC}{e i step:Option VC}{p pos:Pos}(h:bG c f j l σ (λx C=>vp c f e l C (λa D=>vp c f i l D (λb H=>vp c f step l H (λd A => ∃lo hi st,tG a lo/\tG b hi/\tG d st/\vh c f j (.Slice e i step p) x lo hi st l A Q X) X) X) X) X):bG c f (.Subscript j (.Slice e i step p) pos) l σ Q X:=λs hR =>
 apO (cH (h s hR) (λv s₁ x C rv E m N=>wpAny_Slice (cH (N s₁ E) (λvl S a D ra G w T =>
  cH (T S G) (λvu Z b H rb I y L=>cH (L Z I) (λvs M d A rd ajw B z=>by
   refine oR z λlo hi st p1 p2 p3 z=>?_;have P:=(rv.step w E.own).step y G.own |>.step B I.own
   have S5:=aQ.push (P:=f.P) (pv:=f.pv) (σ:=A) M.heap { cls:=.type "slice",data:=.fields #[vl,vu,vs]};refine WD (z v _ vl vu vs _ (ajw.push _) (P.go (Go.stays (gu _ _))) (ara ..) (Iv ra p1) (Iv rb p2) (Iv rd p3)) (λ_ _ p=>?_) λ_ _ p=>?_
   .exact qO.after ((((m.trans w).trans y).trans B).trans S5) p
   .exact gz.after ((((m.trans w).trans y).trans B).trans S5) p) λ_ _ p=>p.after ((m.trans w).trans y)) λ_ _ p=>p.after (m.trans w)) λ_ _ p=>p.after m) ) λ_ _ p=>p)
theorem zl(a:R c f l σ s)(r:bg (σ.V f.pv) s.heap vs xs)(h:Q (.lst xs) σ): iN c f l σ s Q (.ref s.heap.objs.size) {s with heap:=s.heap.push {cls:=.type "list",data:=.seq vs.toArray} }:=⟨.lst xs,σ,.lst (a.g.wt (VJ _)) (WQ _ rfl) (r.go (Go.stays (gu _ _))),a.push _,aQ.push _ _,h⟩
theorem TA{i b:VC}{xs:List O}{vs:List VD}{a sl:VI}{o:Obj}{n:Nat}{lo hi st:Option Int}{p y j:VD}{s:VE}(B:R c f l σ s)(g:s.heap.get? a=Y o)(C:o.cls = .type "list")(D:o.data = .seq vs.toArray n)(r:bg (σ.V f.pv) s.heap vs xs)(E:s.heap.IsSliceOf sl p y j)(H:ank p lo)(I:ank y hi)(L:ank j st)(z:st≠Y 0)(G:xs.length<=WI)(h:Q (.lst (oS xs lo hi st)) σ): wpAny (VL c.prog c.w) f.A (aki i b (.ref a) (.ref sl)) (iN c f l σ s Q) (dI c f σ s λl' x aje=>l'=l/\X x aje) s:=by
 have m:s.heap.IsList a vs.toArray:=⟨_,g,C,_,D⟩;have M:=r.pick (apN (akO lo hi st xs.length).1 (akO lo hi st xs.length).2.1 (akO lo hi st xs.length).2.2);refine o7 m.typeIs am3.lookup (wpAny_getItem_list_slice m E H I L z ?_ (by rw[VN,r.length];exact G));have e:slicePick vs.toArray lo hi st=((apN (akO lo hi st xs.length).1 (akO lo hi st xs.length).2.1 (akO lo hi st xs.length).2.2).filterMap (vs[·]?)).toArray:=by
  unfold slicePick;rw[VN,r.length];simp
 rw[e];exact zl B M h
theorem Wm{b a:VC}{xs:List O}{lo hi st:Option Int}(e:st≠Y 0)(m:xs.length<=WI)(h:Q (.lst (oS xs lo hi st)) σ):vh c f b a (.lst xs) lo hi st l σ Q X:=λv sl z A vs s i r j p w x=>by
 refine r.lstK λ_ _ _ y g r=>?_;exact TA i g rfl rfl r j p w x e m h
theorem Wn{b a:VC}{k:Nat}{xs:List O}{lo hi st:Option Int}(j:σ.H[k]?=Y (.lst xs))(i:st≠Y 0)(p:xs.length<=WI)(h:Q (.lst (oS xs lo hi st)) σ):vh c f b a (.ref k) lo hi st l σ Q X:=λv sl z A vs s e r m w x y=>by
 refine r.i5 λ_=>?_;refine dH (e.g.objs k _ j) λ_ vs n g r=>?_;exact TA e g rfl rfl r m w x y i p h
noncomputable def picked(x:Str)(lo hi st:Option Int):List Nat:=Builtin.Str.strSliceIndices lo hi (st.getD 1) x.length
def zR(x:Str)(lo hi st:Option Int):Str:=if (st.getD 1 == 1&&(picked x lo hi st).length == x.length)=W then x else⟨((picked x lo hi st).filterMap (x.cps[·]?)).toArray⟩
theorem Jn(p:ank v o):∃q,v=partValue q/\q.map (·.1)=o:=by cases p with|none=>exact⟨Sa,rfl,rfl⟩|int i t=>exact⟨Y (i,t),rfl,rfl⟩
theorem Wo{e b:VC}{x:Str}{lo hi st:Option Int}(z:(st.getD 1 == 0)=UA)(j:(zR x lo hi st).length<=WI)(h:Q (.str (zR x lo hi st)) σ):vh c f e b (.str x) lo hi st l σ Q X:=λv sl G H vs s w r A B C D=>by
 refine r.i7 λt=>?_
 .refine aU (Jn B) λm a e1=>?_;subst a;refine aU (Jn C) λp a e2=>?_;subst a;refine aU (Jn D) λi a y=>?_;subst a;subst e1 e2 y;refine o7 (amu s x t) apw.lookup (wpAny_getItem_str_slice A z ?_);unfold zR at h j;unfold sliceMade;have E:slicePicked x m p i=picked x (m.map (·.1)) (p.map (·.1)) (i.map (·.1)):=rfl;rw[E];by_cases q:((i.map (·.1)).getD 1 == 1&&(picked x (m.map (·.1)) (p.map (·.1)) (i.map (·.1))).length == x.length)=W
  .rw[VY q]at h;rw[VY q];exact⟨_,σ,.str _ _,w,.refl,h⟩
  .rw[VP q]at h j;rw[VP q];exact⟨j,dy w (.str _ _) h⟩
end
structure lM (base:WA) (l:List Env) (e:VI) (cls fl:VD) (h h':WA):Prop where
 stays:base.StaysIn h'
 frames:h'.FunFrames base l
 lK:fO base e cls fl h'
 keep:∀b o,h.get? b=Y o->∃o',h'.get? b=Y o'/\o'.cls=o.cls/\DN o o'/\(gM o->o'.data=o.data/\(b∉l.filterMap (·.frame)->o'=o))
 cz:∀b o,h.get? b=Y o->b≠e->o.cls ≠ .type "traceback" -> b∉l.filterMap (·.frame)->h'.get? b=Y o
theorem lM.trans(x:lM base l e cls fl h h1)(y:lM base l e cls fl' h1 h2):lM base l e cls fl' h h2 :=
 ⟨y.stays,y.frames,y.lK,λb o hb=>by
  refine qm (x.keep b o hb) λA e1 p d1 a=>?_;refine qm (y.keep b A e1) λB e2 w z j=>?_;refine⟨B,e2,w.trans p,d1.trans z,λf=>⟨(j (f.of (a f).1)).1.trans (a f).1,λq=>?_⟩⟩;rw[(j (f.of (a f).1)).2 q];exact(a f).2 q,λb o hb n i m=>y.cz b o (x.cz b o hb n i m) n i m⟩
theorem afg(o:Obj)(g):(aih g o).dict=o.dict:=by obtain⟨c,d,a,sl⟩:=o;cases a<;>rfl
theorem QN(o:Obj)(g):DN o (aih g o):=⟨afg o g,λz=>by obtain⟨c,d,a,sl⟩:=o;cases a<;>first|exact z|rfl⟩
section
variable{M:am8}{A:af2}{E:VD->VE->Prop}{s:VE}{base:WA}{l:List Env}
theorem SK{P:Unit->VE->Prop}(N:s.heap.FunFrames base l)(D:base.StaysIn s.heap)(he:s.heap.get? e=Y oe)(I:oe.cls=cls)(L:oe.data = .fields vs)(h1:vs[1]?=Y (.ref T))(C:base.get? T=Sa)(x:T≠e)(p:s.heap.get? T=Y oT)(y:oT.cls = .type "traceback")(jB:oT.data = .fields ts)(h3:ts[3]?=Y fl)(h:∀h',lM base l e cls fl' s.heap h'->(∀b,b≠T->h'.get? b=s.heap.get? b)->P () {s with heap:=h'}):wpAny M A (setField (.ref T) 3 fl') P E s:=by
 have B:=(alJ.mp h3).1;refine wpAny_setField p jB B (h _ ?_ λb hb=>aln _ _ (acb hb));have a:∀b,b≠T->(s.heap.update T (aih (·.setIfInBounds 3 fl'))).get? b=s.heap.get? b:=λb hb=>aln _ _ (acb hb);have f:∀b o,s.heap.get? b=Y o->gM o->b≠T:=λb o hb m q=>by
  rw[q,p]at hb;injection hb with hb;subst hb;exact m ts jB
 have H:=aou jB (·.setIfInBounds 3 fl');have w:=akg (aih (·.setIfInBounds 3 fl')) p (an1 H);refine⟨λb o j=>(a b λq=>by rw[q,C]at j;exact bN j).trans (D b o j),N.of_keeps λb o hb m=>⟨o,(a b (f b o hb m)).trans hb,rfl⟩,
  ⟨oe,vs,T,_,_,(a e (acb x)).trans he,I,L,h1,C,x,w,(al8 _ _).trans y,H,by simp[B]⟩,λb o hb=>?_,λb o hb _ i _=>(a b λq=>by
   rw[q,p]at hb;have G:=UB hb;clear hb;subst G;exact i y).trans hb⟩
 by_cases q:b=T
 .subst q;rw[p]at hb;have G:=UB hb;clear hb;subst G;exact⟨_,w,al8 _ _,QN _ _,λz=>(z ts jB).elim⟩
 .exact⟨o,(a b q).trans hb,rfl,.refl,λ_=>⟨rfl,λ_=>rfl⟩⟩
theorem Tu{P:Unit->VE->Prop}(x:s.heap.FunFrames base l)(i:base.StaysIn s.heap)(y:fO base e cls fl s.heap)(h:∀h',lM base l e cls (fr.elim .none λf=>rawInt f) s.heap h'->P () {s with heap:=h'}):wpAny M A (aqf (.ref e) fr) P E s:=by
 refine Df y λB vs T z ts he w m h1 j a p b jB h3=>?_;unfold aqf;refine wpAny_bind (akB he m h1 ?_);rw[VY (show(acm T != alE)=W from by simp)];exact SK x i he w m h1 j a p b jB h3 λh' L _=>h h' L
theorem QZ{Q:Unit->VE->Prop}
  (eZ:A.frames=Y (env::outer)) (hl:s.heap.FunFrames base (env::outer)) (hf:env.frame=Y L)
  (he:s.heap.get? e=Y oe) (hkb:base.StaysIn s.heap) (hen:base.get? e=Sa) (S:oe.data = .fields vs) (X:1 < vs.size)
  (h:∀h',lM base (env::outer) e oe.cls (rawInt L) s.heap h'->Q () {s with heap:=h'}) :
  wpAny M A (do let a ←frameOf env;let z ←entryPlaceOf L N;let b ←aol head a .none (rawInt L) .none z;setField (.ref e) 1 b) Q E s:=by
 have T:e∉(env::outer).filterMap (·.frame):=λhm=>by
  refine uX (hl.mem hm) λ_ o ho w=>?_;rw[he]at ho;injection ho with ho;subst ho;exact w vs S
 refine wpAny_bind (wpAny_frameOf_fun eZ hl hf λajj p=>?_);refine wpAny_bind (wpAny_entryPlaceOf λz hpl=>?_);unfold aol newFields;refine wpAny_bind (alu ?_ (hpl.sizeOk5 _ _ _ _ _));have D:ajj.get? e=Y oe:=(p.2.1 e T).trans he;have G:base.StaysIn ajj:=λb o j=>(p.2.1 b λhm=>by rw[(hl.mem hm).1]at j;exact bN j).trans (hkb b o j);generalize hT:({ cls:=.type "traceback",dict:=Sa,data:=.fields ([head,.ref L,.none,rawInt L,.none]++(if z.isEmpty then acd 6 alE else z)).toArray}:Obj)=y;have hTc:y.cls = .type "traceback":=by rw[←hT]
 have hTd:y.data = .fields ([head,.ref L,.none,rawInt L,.none]++(if z.isEmpty then acd 6 alE else z)).toArray:=by rw[←hT]
 have H:=VX (h:=ajj) y D;refine wpAny_setField H S X (h _ ?_);have I:ajj.objs.size≠e:=aov (WK D);have B:=aou S (·.setIfInBounds 1 (acm ajj.objs.size));have C:=akg (aih (·.setIfInBounds 1 (acm ajj.objs.size))) H (an1 B);have aj5:=(aln (ajj.push y) (aih (·.setIfInBounds 1 (acm ajj.objs.size))) (acb I)).trans (WQ ajj (by rw[←hT];rfl));have f:∀b o,ajj.get? b=Y o->b≠e->((ajj.push y).update e (aih (·.setIfInBounds 1 (acm ajj.objs.size)))).get? b=Y o:=λb o hb x=>by
  rw[aln _ _ (acb x)];exact VX _ hb
 have Z:∀b o,s.heap.get? b=Y o->gM o->b≠e:=λb o hb w q=>by
  rw[q,he]at hb;injection hb with hb;subst hb;exact w vs S
 refine⟨λb o j=>f b o (G b o j) λq=>by rw[q,hen]at j;exact bN j,hl.of_keeps λb o hb w=>?_,?_,λb o hb=>?_,λb o hb nt i m=>?_⟩
 .refine VF (p.2.2 b o hb) λsl hs=>?_;exact⟨_,f b _ hs (Z b o hb w),rfl⟩
 .exact⟨_,_,ajj.objs.size,y,_,C,al8 _ _,B,by simp[X],G.fresh,I,aj5,hTc,hTd,by simp⟩
 .refine VF (p.2.2 b o hb) λsl hs=>?_;by_cases x:b=e
  .subst x;rw[he]at hb;have zq:=UB hb;clear hb;subst zq;exact⟨_,C,al8 _ _,QN _ _,λq=>(q vs S).elim⟩
  .refine⟨_,f b _ hs x,rfl,⟨rfl,id⟩,λq=>⟨rfl,λnm=>?_⟩⟩;have:=p.2.1 b nm;rw[hs,hb]at this;exact UB this
 .exact f b o ((p.2.1 b m).trans hb) nt
theorem lM.refl(a:base.StaysIn h)(f:h.FunFrames base l)(i:fO base e cls fl h):lM base l e cls fl h h:=⟨a,f,i,λb o e=>⟨o,e,rfl,.refl,λ_=>⟨rfl,λ_=>rfl⟩⟩,λb o e _ _ _=>e⟩
theorem Ri{Q:Unit->VE->Prop}(eZ:A.frames=Y (env::outer))(H:s.heap.FunFrames base (env::outer))(G:env.frame=Y L)(he:s.heap.get? e=Y oe)(p:base.StaysIn s.heap)(D:base.get? e=Sa)(i:oe.data = .fields vs)(h1:vs[1]?=Y .none∨fO base e oe.cls .none s.heap∨fO base e oe.cls (rawInt L) s.heap)(h:∀h',lM base (env::outer) e oe.cls (rawInt L) s.heap h'->Q () {s with heap:=h'}):wpAny M A (amR (.ref e) env) Q E s:=by
 unfold amR;simp only[G];rcases h1 with h1|h1|h1
 .refine wpAny_bind (akB he i h1 ?_);rw[VP (by decide)];exact QZ eZ H G he p D i (alJ.mp h1).1 h
 .refine Df h1 λI N T S ts b j a h1 w f C m jB h3=>?_;rw[he]at b;have B:=UB b;clear b;subst B;rw[i]at a;have B:=amv a;clear a;subst B;refine wpAny_bind (akB he i h1 ?_);rw[VY (show(acm T != alE)=W from by simp)];refine wpAny_bind (akB C jB h3 ?_);rw[VP (show ¬((alE == rawInt L)=W) from by simp[rawInt])];refine wpAny_bind (SK (l:=env::outer) H p he rfl i h1 w f C m jB h3 λX x z=>?_);exact QZ eZ x.frames G ((z e (acb f)).trans he) x.stays D i (alJ.mp h1).1 λh' y=>h h' (x.trans y)
 .refine Df (id h1) λI N T S ts b j a h1 w f C m jB h3=>?_;rw[he]at b;have B:=UB b;clear b;subst B;rw[i]at a;have B:=amv a;clear a;subst B;refine wpAny_bind (akB he i h1 ?_);rw[VY (show(acm T != alE)=W from by simp)];refine wpAny_bind (akB C jB h3 ?_);rw[VY (by simp)];exact wpAny_pure (h s.heap (.refl p H ⟨oe,vs,T,S,ts,he,j,i,h1,w,f,C,m,jB,h3⟩))
theorem aeY{Q:Unit->VE->Prop}(eZ:A.frames=Y (env::outer))(m:s.heap.FunFrames base (env::outer))(j:env.frame=Y L)(he:s.heap.get? e=Y oe)(b:base.StaysIn s.heap)(a:base.get? e=Sa)(i:oe.data = .fields vs)(h1:vs[1]?=Y .none∨fO base e oe.cls .none s.heap∨fO base e oe.cls (rawInt L) s.heap)(h:∀h',lM base (env::outer) e oe.cls .none s.heap h'->Q () {s with heap:=h'}):wpAny M A (ap8 env (.ref e)) Q E s:=by
 unfold ap8;refine wpAny_bind (Ri eZ m j he b a i h1 λf x=>?_);exact Tu (fr:=Sa) x.frames x.stays x.lK λh' y=>h h' (x.trans y)
end
structure Ent (h0:WA) (env:Env) (binds:List (Str×VD)) (h1:WA):Prop where
 stays:h0.StaysIn h1
 ns:∃m,h1.Ns env.locals m
 vars:∀p∈binds,fq env h1 p.1 p.2
 above:∀b,(b=env.locals∨b∈env.cells.map (·.2))->h0.objs.size<=b/\∃o,h1.get? b=Y o/\gM o
 iB:∀b∈env.cells.map (·.2),∃v,h1.IsCell b v
 nd:(env.locals::env.cells.map (·.2)).Nodup
noncomputable def sub(A:af2)(env:Env)(fr:List Env)(n:Nat)(pv:VI->Prop):Fc:=⟨A.deeper env,env,env::fr,n,λb=>pv b∨b=env.locals∨b∈env.cells.map (·.2)⟩
section
variable{c:GC}{n:Nat}{pv:VI->Prop}{fr:List Env}{A:af2}{σ aje:Sg}{s s':VE}{env:Env}{binds:List (Str×VD)}{Q:QV}{X:QX}
theorem Go.enter(G:Rg c (n+1) pv fr A σ s)(e:Ent s.heap env binds h1):Go (σ.V pv) s.heap (σ.V (sub A env fr n pv).pv) h1 :=
 ⟨VJ _,λ_ _=>rfl,λb o a t q=>by
  rcases q with q|q|q
  .exact t (.inl q)
  .exact t (.inr q)
  .exact absurd (WK a) (akM.mpr (e.above b q).1),λb o a _ _=>⟨o,e.stays b o a,.rfl⟩⟩
theorem Go.Fs{pv a:VI->Prop}(k:∀b,pv b->a b):Go (σ.V a) h (σ.V pv) h :=⟨VJ _,λ_ _=>rfl,λb o _ t q=>t (q.elim .inl λz=>.inr (k b z)),λb o e _ _=>⟨o,e,.rfl⟩⟩
theorem Ok.go(go:Go V h V' h')(k:∀a q,σ.σ a=Y q->∀o,h.get? a=Y o->Rv o->h'.get? a=Y o)(x:Ok Ps σ V h i m):Ok Ps σ V' h' i m:=by
 cases m with
 |lst xs=>refine dH x λe vs n g r=>?_;exact⟨e,vs,n,k _ _ e _ g (.inl (sU rfl)),r.go go⟩
 |bu fs=>refine wC x λe es n g r q=>?_;exact⟨e,es,n,k _ _ e _ g (.inl λ_ q=>by exact kG q),r.go go,q⟩
 |inst C fs=>refine nI x λe d es n e2 g f r=>?_;exact⟨e,d,es,n,e2,k _ _ e _ g (.inl λ_ q=>by cases q),k _ _ e2 _ f (.inl λ_ q=>by exact kG q),r.go go⟩
 |exc C fs=>refine dH x λe t b g r=>?_;exact⟨e,t,b,k _ _ e _ g (.inr ⟨_,rfl⟩),r.move go (λ_ _ z=>z) λ_ _ o z w n=>k _ _ z o w (.inl n)⟩
 |dead=>trivial
theorem afo{b:List Str}:∀{vs:List VD}{xs:List O}{V:Vw}{h:WA},bg V h vs xs->∀p∈b.zip xs,∃v,(p.1,v)∈b.zip vs/\Rel V h v p.2:=by
 induction b with
 |nil=>intro vs xs V h r p m;exact dw m
 |cons n b e =>
  intro vs xs V h r p m;induction xs using cL with
  |nil=>exact dw m
  |cons x xs =>
   refine r.A9 λv us a r=>?_;rcases WM.mp m with rfl|m
   .exact⟨_,.head _,a⟩
   .exact(e r p m).imp λv q=>⟨.tail _ q.1,q.2⟩
theorem abF{a n:Nat}(h:a+3 * (n+1)<=950):a+1+3 * n<=950:=by lia
theorem aiy{a n:Nat}(h:a+30 * (n+1)<=9000):a+3+30 * n<=9000:=by lia
theorem enter(G:Rg c (n+1) pv fr A σ s){z:List Str}{h:List VD}{xs:List O}(r:bg (σ.V pv) s.heap h xs){h1:WA}{t:Nat}(e:Ent s.heap env (z.zip h) h1)(w:env.scope.kind = .function)(l:env.frame=Y env.locals)(B:env.globals=akp)(hb:env.builtins=am7):R c (sub A env fr n pv) (z.zip xs) σ {s with heap:=h1,toks:=t}:=by
 have go:=Go.enter G e;refine VF e.ns λm hm=>?_;have E:∀b,(b=env.locals∨b∈env.cells.map (·.2))->c.base.get? b=Sa:=λb q=>G.mV (e.above b q).1;refine⟨⟨λb o p=>e.stays b o (G.stays b o p),?_,?_,?_,?_,?_,?_,?_,?_,λa q=>(nH (G.own a q) λx o y=>⟨x,o,e.stays a o y⟩),G.gens,G.os⟩,⟨m,hm⟩,λx y C=>?_,e.iB,λb q=>.inr q,e.nd,w,B,hb,env,fr,env.locals,rfl,l,l⟩
 .exact aq9 (by rw[w];decide) l hm (E _ (.inl rfl)) (G.frames.of_keeps λb o p _=>⟨o,e.stays b o p,rfl⟩)
 .exact Around.frames_deeper G.stack
 .exact G.hand
 .exact abF G.depth
 .exact aiy G.units
 .intro env' he L j;rcases WM.mp he with rfl|he
  .rw[l]at j;have H:=UB j;clear j;subst H;exact .inr (.inl rfl)
  .exact .inl (G.fy env' he L j)
 .intro a q;rcases q with q|q
  .refine hY (G.dm a q) λx y o i f=>?_;exact⟨x,y,o,e.stays _ _ i,f⟩
  .refine uX (e.above a q) λx o i f=>?_;exact⟨G.qd x,G.mV x,o,i,f⟩
 .exactλk m e'=>(G.objs k m e').go go λa q _ o i _=>e.stays a o i
 .refine aU (afo r (x,y) (mem_of_lookup C)) λv D rv=>?_;exact⟨v,e.vars _ D,rv.go go⟩
theorem aQ.back(G:Rg c (n+1) pv fr A σ s)(e:Ent s.heap env binds h1)(S:aQ (sub A env fr n pv).P (sub A env fr n pv).pv σ h1 aje h'):aQ (λ_=>False) pv σ s.heap aje h' :=
 ⟨S.n,S.mu,λb o j _ q=>by
  have lt:=WK j;have l:¬(b=env.locals∨b∈env.cells.map (·.2)):=λz=>akM.mpr (e.above b z).1 lt;refine hX (S.keep b o (e.stays b o j) l q) λa k i x=>?_;exact⟨a,λr=>aU (k r) λm e' w=>⟨m,e',λf=>⟨(w.1 f).1,λh=>(w.1 f).2 λz=>z.elim h l⟩,w.2⟩,i,x⟩⟩
theorem Rg.back(G:Rg c (n+1) pv fr A σ s)(e:Ent s.heap env binds h1)(f:R c (sub A env fr n pv) l aje s'):Rg c (n+1) pv fr A aje s' where
 stays:=f.g.stays
 frames:=f.g.frames.2.2
 stack:=G.stack
 hand:=G.hand
 depth:=G.depth
 units:=G.units
 fy:=G.fy
 dm:=λa q=>f.g.dm a (.inl q)
 objs:=λk m e'=>(f.g.objs k m e').go (Go.Fs λb q=>.inl q) λ_ _ _ _ h _=>h
 own:=f.g.own
 gens:=f.g.gens
 os:=f.g.os
theorem dY.go(T:dY c fl V h e x)(go:Go V h V' h')(k:∀a i vs,e = .ref a->h.get? a=Y i->i.data = .fields vs->i.cls = .ref x.C->∃b f,h'.get? a=Y b/\b.cls=i.cls/\b.dict=i.dict/\b.data = .fields f /\ (f[1]?=Y .none∨fO c.base a (.ref x.C) .none h'∨fO c.base a (.ref x.C) fl' h')):dY c fl' V' h' e x:=by
 induction T with
 |mk a d i vs es n m e1 e2 w y B j D l E p =>
  exact(k a i vs m e1 y e2).elim λb z=>z.elim λf z=>⟨a,d,b,f,es,n,m,z.1,z.2.1.trans e2,z.2.2.1.trans w,z.2.2.2.1,B,(go.same l j λ_ q=>by exact kG q).2,go.un a i e1 D,(go.same l j λ_ q=>by exact kG q).1,E.go go,z.2.2.2.2⟩
theorem dY.lK(T:dY c fl V h (.ref a) x):∃b vs,h.get? a=Y b/\b.cls = .ref x.C/\b.data = .fields vs/\c.base.get? a=Sa/\(vs[1]?=Y .none∨fO c.base a (.ref x.C) .none h∨fO c.base a (.ref x.C) fl h) :=T.el λ_ b vs _ _ e1 e2 _ f i _ _ _ _ e=>⟨b,vs,e1,e2,f,i,e⟩
theorem dY.wt(T:dY c fl V h (.ref a) x):¬V.T a:=T.el λ_ _ _ _ _ _ _ _ _ _ _ b _ _ _=>b
theorem IL(e:R c f l σ s)(T:dY c f.fl (σ.V f.pv) s.heap (.ref a) x)(L:lM c.base f.fr a (.ref x.C) fl s.heap h')(jc:fl = .none∨fl=f.fl): R c f l σ {s with heap:=h'}/\dY c f.fl (σ.V f.pv) h' (.ref a) x/\aQ f.P f.pv σ s.heap σ h':=by
 refine nJ T.lK λoe vs e1 e2 e4 e5 e10=>?_;have np:∀b,¬f.pv b->b∉f.fr.filterMap (·.frame):=λb q z=>by
  refine aU (List.mem_filterMap.mp z) λenv' me he=>?_;exact q (e.g.fy env' me b he)
 have S:aQ f.P f.pv σ s.heap σ h':=⟨VJ _,λ_ _=>rfl,λb o j _ q=>by
  refine qm (L.keep b o j) λh e' N Z w=>?_;exact⟨q,λ_=>⟨h,e',λf=>⟨(w f).1,λz=>(w f).2 (np b z)⟩,λC ec=>⟨N.trans ec,Z⟩⟩,(λi=>L.cz b o j (λz=>by
   rw[z,e1]at j;have B:=UB j;clear j;subst B;refine uX i λ_ T H _=>?_;rw[e2]at H;cases H) (λz=>by
   refine uX i λ_ T H q2=>?_;rw[z]at H;cases H;exact q2 rfl) λz=>by
   refine uX (e.g.frames.mem z) λ_ o2 E hnf=>?_;rw[j]at E;have B:=UB E;clear E;subst B;refine a9 i λM _=>?_;refine VF M λI dv=>?_;exact hnf I dv),h,e'⟩⟩
 have go:=S.go e.own;have G:Rg c f.n f.pv f.fr f.A σ {s with heap:=h'}:=⟨L.stays,L.frames,e.g.stack,e.g.hand,e.g.depth,e.g.units,e.g.fy,λb q=>by
   refine hY (e.g.dm b q) λx y o p w=>?_;refine qm (L.keep b o p) λh e' _ _ w'=>?_;exact⟨x,y,h,e',w.of (w' w).1⟩,λk m e'=>(e.g.objs k m e').go go λb q j o p w=>by
   have nb:b∉f.fr.filterMap (·.frame):=np b λz=>by have:=(e.g.dm b z).1;rw[j]at this;exact gJ this
   rcases w with w|⟨C,w⟩
   .refine qm (L.keep b o p) λh e' _ _ w'=>?_;rw[(w' w).2 nb]at e';exact e'
   .exact L.cz b o p (λz=>T.wt (.inl (by rw[←z,j];simp))) (by rw[w];intro z;cases z) nb,λb q=>⟨(e.g.own b q).1,nH (e.g.own b q) λ_ o y=>aU (L.keep b o y) λh e' _=>⟨h,e'⟩⟩,e.g.gens,e.g.os⟩
 refine⟨e.move G go λb hb o p=>?_,T.go go λa' oe' I q p ed ec=>?_,S⟩
 .refine qm (L.keep b o p) λh e' _ _ w=>?_;refine hY (e.g.dm b (e.own b hb)) λ_ _ o2 D nf=>?_;rw[p]at D;have B:=UB D;clear D;subst B;exact⟨h,e',(w nf).1⟩
 .have B:=akI q;clear q;subst B;have tr:=L.lK;refine Jl (id tr) λoe2 vs2 T2 oT ts g1 g2 g3 g4 g5=>?_;refine qm (L.keep a oe' p) λh e' N Z _=>?_;rw[g1]at e';have B:=UB e';clear e';subst B;refine⟨oe2,vs2,g1,N,Z.1,g3,?_⟩;rcases jc with rfl|rfl
  .exact .inr (.inl tr)
  .exact .inr (.inr tr)
theorem dY.ref(T:dY c fl V h e x):∃a,e = .ref a:=by induction T with|mk a _ _ _ _ _ q=>exact⟨a,q⟩
theorem aeX{P:Unit->VE->Prop}{E:VD->VE->Prop}(i:R c f l σ s)(eZ:f.fr=f.env::fr')(y:f.env.frame=Y f.env.locals)(T:dY c f.fl (σ.V f.pv) s.heap e x)(h:∀h',R c f l σ {s with heap:=h'}->dY c .none (σ.V f.pv) h' e x->aQ f.P f.pv σ s.heap σ h'->P () {s with heap:=h'}):wpAny (VL c.prog c.w) f.A (ap8 f.env e) P E s:=by
 refine VF T.ref λa b=>?_;subst b;refine nJ T.lK λZ vs e1 e2 D G j=>?_;have jc:f.fl=rawInt f.env.locals:=by unfold Fc.fl;rw[y]
 refine aeY (by rw[i.g.stack,eZ]) (eZ▸i.g.frames) y e1 i.g.stays G D (by rw[e2,←jc];exact j) λh' L=>?_;rw[e2,←eZ]at L;refine fw (IL i T L (.inl rfl)) λz B C=>?_;refine h h' z (B.go Go.refl λN m p q I H S=>?_) C;have M:=akI q;clear q;subst M;exact⟨m,p,I,rfl,rfl,H,.inr (.inl L.lK)⟩
set_option backward.match.sparseCases true in
theorem MU(G:Rg c (n+1) pv fr A σ s){H:List Str}{h:List VD}{xs:List O}(r:bg (σ.V pv) s.heap h xs){body:List ajc}{h1:WA}{t:Nat}(e:Ent s.heap env (H.zip h) h1)
  (Z:env.scope.kind = .function) (E:env.frame=Y env.locals) (S:env.globals=akp) (hb:env.builtins=am7)
  (i:dZ c (sub A env fr n pv) (akS body env) (H.zip xs) σ (λk l' aje=>match k with | .ret x=>Q x aje | .next=>Q .none aje | .brk=>False) λl' x aje=>X x aje) :
  wpAny (VL c.prog c.w) (A.deeper env) (akS body env) (λfl s'=>Al c (n+1) pv fr A σ s Q X (.ok (.ret (match fl with | .ret v=>v|_=>.none))) s')
   (λe s'=>wpAny (VL c.prog c.w) (A.deeper env) (ap8 env e) (λ_ l=>Al c (n+1) pv fr A σ s Q X (.error e) l) (λe' l=>Al c (n+1) pv fr A σ s Q X (.error e') l) s')
   {s with heap:=h1,toks:=t}:=by
 have N:=enter (t:=t) G r e Z E S hb;refine nz (i _ N) (λfl s' k l' aje j m p q=>?_) λev s' ⟨x,l',aje,T,m,p,q⟩=>?_
 .have D:=Rg.back G e m;have I:=aQ.back G e p;induction k using vv with
  |next =>
   cases fl with
   |next=>exact⟨.none,aje,.none,D,I,q⟩
   |_=>exact j.elim
  |brk=>exact q.elim
  |ret x =>
   cases fl with
   |ret v=>exact⟨x,aje,Rel.go (Go.Fs λb q=>.inl q) j,D,I,q⟩
   |_=>exact j.elim
 .refine aeX (f:=sub A env fr n pv) m rfl E T λh' L B S2=>?_;exact⟨x,aje,B.go (Go.Fs λb q=>.inl q) λa oe vs q C ed ec=>by
   subst q;refine nJ B.lK λoe' z e1 _ M _ y=>?_;rw[C]at e1;have zq:=UB e1;clear e1;subst zq;exact⟨oe,z,C,rfl,rfl,M,y⟩,Rg.back G e L,aQ.back G e (p.trans S2),q⟩
end
structure FI where
 params:List Str
 defs:List O
 scope:akz
 body:List ajc
noncomputable def FI.bind(a:FI)(xs:List O):Option Lc :=if a.params.length<=xs.length+a.defs.length/\xs.length<=a.params.length then Y (a.params.zip (xs++a.defs.drop (xs.length+a.defs.length - a.params.length))) else Sa
inductive iO (c:GC):List VD->List O->Prop
 |nil:iO c [] []
 |cons {v vs x xs}:pj c v x->iO c vs xs->iO c (v::vs) (x::xs)
section
variable{c:GC}{n:Nat}{pv:VI->Prop}{fr:List Env}{A:af2}{σ aje:Sg}{s s':VE}{Q:QV}{X:QX}
theorem iO.here(R:iO c vs xs)(G:Rg c n pv fr A σ s):bg (σ.V pv) s.heap vs xs:=by
 induction R with
 |nil=>exact .nil
 |cons a _ i=>exact .cons (a.here G) i
theorem iO.length(R:iO c vs xs):vs.length=xs.length:=by
 induction R with
 |nil=>rfl
 |cons _ _ i=>exact congrArg (· + 1) i
structure Ko (c:GC) (a:VI) (fi:FI) (o:Obj) (fd:akw):Prop where
 at_:c.base.get? a=Y o
 data:o.data = .func fd
 body:fd.body = .stmts fi.body
 scope:fd.scope=fi.scope
 globals:fd.globals=akp
 builtins:fd.builtins=am7
 closure:fd.closure=[]
 code:codeIn c.K fd.code fd.qualname=W
 co:fd.scope.isCoroutine=UA
 gen:fd.scope.isGenerator=UA
 kind:fd.scope.kind = .function
 Qu:aow c.K (.ref a)=W
 ai8:isFn c.K (.ref a)=W
 nodup:fi.params.Nodup
def ph(c:GC)(a:VI)(e:FI):Prop:=∃o fd,Ko c a e o fd /\ ((∀x∈fd.scope.names,x.2 ≠ .cell)/\(∀p∈e.params,fd.scope.names.lookup p=Y .local) /\ (∀(s:VE) (b:List VD),c.base.StaysIn s.heap->e.params.length<=b.length+e.defs.length->b.length<=e.params.length -> ∃lV,iO c lV (e.defs.drop (b.length+e.defs.length - e.params.length))/\BindsTo s fd ⟨b,[]⟩ (e.params.zip (b++lV))) ∨ e.defs=[]/\(∀n,((alb n fd.scope.names []).map (·.1)).Nodup)/\(∀p∈e.params,fd.scope.names.lookup p=Y .local∨(fd.scope.names.lookup p=Y .cell/\∀n,((alb n fd.scope.names []).lookup p).isSome=W)) /\ (∀b:List VD,b.length=e.params.length->amk fd ⟨b,[]⟩=pure (e.params.zip b)))
theorem CW{i:Type}:∀{l:List (Str×i)},(l.map (·.1)).Nodup->∀p∈l,l.lookup p.1=Y p.2:=by
 intro l;induction l with
 |nil =>
  exact@λ_ p m=>by exact dw m
 |cons q r f =>
  exact@λnd p m=>by
   rw[WH,VU]at nd;rcases WM.mp m with e|m'
   .subst e;obtain⟨a,b⟩:=p;rw[VZ];simp
   .have h:p.1≠q.1:=λe=>nd.1 (e▸aom m');obtain⟨a,b⟩:=q;rw[VZ,VQ.mpr h];exact f nd.2 p m'
theorem Kb{i:Type}:∀{f:List Str}{vs:List i},f.Nodup->((f.zip vs).map (·.1)).Nodup
 | [],_,_=>.nil
 |_::_,[],_=>.nil
 |n::f,v::vs,nd=>by
  rw[VU]at nd;rw[alc,WH,VU];refine⟨λq=>?_,Kb nd.2⟩;refine aU (abz.mp q) λy h e=>?_;have:=(akC (a:=y.1) (b:=y.2) h).1;rw[show y.1=n from e]at this;exact nd.1 this
theorem I7{a:Type}{l:List a}(h:l.Nodup):l.reverse.Nodup:=by
 unfold aoe at h ⊢;rw[List.pairwise_reverse];exact h.imp λq e=>q e.symm
theorem QJ{b:Type}{a:List Str}{vs:List b}(nd:a.Nodup)(p)(m:p∈a.zip vs):(a.zip vs).reverse.lookup p.1=Y p.2:=by
 refine CW ?_ p (anl.mpr m);rw[List.map_reverse];exact I7 (Kb nd)
theorem ack{fd:akw}{a:VI}{h:List Str}{f:List VD}{h₀:WA}(i:h₀.Ns s.heap.objs.size λx=>(h.zip f).reverse.lookup x)(k:∀b o,s.heap.get? b=Y o->h₀.get? b=Y o)(l:fd.closure=[])(w:∀p∈h,fd.scope.names.lookup p=Y .local)(nd:h.Nodup):Ent s.heap (aoL fd s.heap.objs.size a) (h.zip f) h₀:=by
 have jA:(aoL fd s.heap.objs.size a).cells=[]:=l;have B:(aoL fd s.heap.objs.size a).locals=s.heap.objs.size:=rfl;refine⟨k,⟨_,i⟩,λp j=>?_,λb q=>?_,by rw[jA];simp,by rw[jA];simp⟩
 .have e:(aoL fd s.heap.objs.size a).kindOf p.1=Y .local:=w p.1 (akC j).1;unfold fq;rw[e];exact⟨_,i,QJ nd p j⟩
 .rw[jA]at q;rcases q with rfl|q
  .refine gS i λo es z y m _=>?_;exact⟨VJ _,o,y,λvs q=>by rw[m]at q;exact kG q⟩
  .exact dw q
theorem aaz{k:Str->Option acE}:∀{l:List (Str×VD)}{m:Str->Option VD}{x:Str},k x=Y .local ->
  bindL k l m x=(match l.reverse.lookup x with|some v=>Y v|none=>m x):=by
 intro l;induction l with
 |nil=>intro m x _;rfl
 |cons q r b =>
  intro m x hx;obtain⟨n,v⟩:=q;unfold bindL;rw[b hx,aeK,aox];cases r.reverse.lookup x with
  |some w=>rfl
  |none =>
   simp only[ap9,VZ,apQ];by_cases e:x=n
   .subst e;simp[hx]
   .have:(x == n)=UA:=VQ.mpr e;rw[this];by_cases a:k n=Y .local<;>simp[a,e]
theorem aay{k:Str->Option acE}:∀{l:List (Str×VD)}{m:Str->Option VD}{x:Str},k x≠Y .local ->
  bindC k l m x=(match l.reverse.lookup x with|some v=>Y v|none=>m x):=by
 intro l;induction l with
 |nil=>intro m x _;rfl
 |cons q r b =>
  intro m x hx;obtain⟨n,v⟩:=q;unfold bindC;rw[b hx,aeK,aox];cases r.reverse.lookup x with
  |some w=>rfl
  |none =>
   simp only[ap9,VZ,apQ];by_cases e:x=n
   .subst e;simp[hx]
   .have:(x == n)=UA:=VQ.mpr e;rw[this];by_cases a:k n=Y .local<;>simp[a,e]
theorem acj{fd:akw}{a:VI}{l:List Str}{f:List VD}{s₁:VE}(x:InCallC s (alF fd s.heap.objs.size a).locals (bindL (alF fd s.heap.objs.size a).kindOf (l.zip f) λ_=>Sa) (alF fd s.heap.objs.size a).cells (bindC (alF fd s.heap.objs.size a).kindOf (l.zip f) λ_=>Sa) s₁)(I:∀p∈l,fd.scope.names.lookup p=Y .local∨(fd.scope.names.lookup p=Y .cell/\∀n,((alb n fd.scope.names []).lookup p).isSome=W))(nd:l.Nodup)(C:∀n,((alb n fd.scope.names []).map (·.1)).Nodup):Ent s.heap (alF fd s.heap.objs.size a) (l.zip f) s₁.heap:=by
 have D:(alF fd s.heap.objs.size a).locals=s.heap.objs.size:=rfl;have kd:∀y,(alF fd s.heap.objs.size a).kindOf y=fd.scope.names.lookup y:=λ_=>rfl;have m:((alF fd s.heap.objs.size a).cells.map (·.2)).Nodup:=by
  have:=x.apart;rw[aoe,am5];exact this
 refine⟨x.toInCall.keep,⟨_,x.toInCall.ns⟩,λp E=>?_,λb q=>?_,λb q=>by
   refine aU (abz.mp q) λy i h=>?_;subst h;exact⟨_,x.cell y.1 y.2 (CW (C _) y i)⟩,VU.mpr ⟨λq=>?_,m⟩⟩
 .have G:=QJ nd p E;unfold fq;rcases I p.1 (akC E).1 with e|⟨e,H⟩
  .rw[kd,e];exact⟨_,x.toInCall.ns,by rw[aaz (by rw[kd];exact e),G]⟩
  .rw[kd,e];refine VF (anm.mp (H (s.heap.objs.size+1))) λB j=>?_;refine⟨B,j,?_⟩;have:=x.cell p.1 B j
   rwa [aay (by rw[kd,e];decide),G]at this
 .rcases q with rfl|q
  .refine gS x.toInCall.ns λo es L z w _=>?_;exact⟨by rw[D];exact VJ _,o,z,λvs q=>by rw[w]at q;exact kG q⟩
  .refine aU (abz.mp q) λy i h=>?_;subst h;refine⟨alw (by have:=x.above y.1 y.2 i;rw[D]at this;exact this),?_⟩;refine aU (x.cell y.1 y.2 (CW (C _) y i)) λo z w=>?_;exact⟨o,z,λvs q=>by rw[w]at q;cases q⟩
 .refine aU (abz.mp q) λy i e=>?_;have:=x.above y.1 y.2 i;rw[e]at this;exact ame _ this
theorem IY{a:Type}{k:a}:∀{l:List (Str×a)},l.lookup x=Y k->(x,k)∈l:=by
 intro l;induction l with
 |nil =>
  exact@λh=>by exact bN h
 |cons f r b =>
  obtain⟨y,v⟩:=f;exact@λh=>by
   rw[VZ]at h;cases e:x == y with
   |true=>rw[e]at h;rw[eq_of_beq e,show v=k from UB h];exact .head _
   |false=>rw[e]at h;exact .tail _ (b h)
theorem MW:∀{b:List (Str×acE)}(n:Nat) {acc:List (Str×VI)},(b.lookup x=Y .cell∨∃a,acc.lookup x=Y a)->∃a,(alb n b acc).lookup x=Y a:=by
 intro b;induction b with
 |nil =>
  exact@λn acc h=>h.elim (λh=>by exact bN h) id
 |cons i r f =>
  obtain⟨y,k⟩:=i;exact@λn acc h=>by
   show ∃a,(if (k == .cell)=W then alb (n+1) r ((y,n)::acc) else alb n r acc).lookup x=Y a;by_cases q:(k == ak8)=W
   .rw[VY q];refine f _ ?_;by_cases e:x=y
    .exact .inr ⟨n,by rw[VZ,akP.mpr e]⟩
    .rcases h with h|⟨a,h⟩
     .left;rw[VZ,VQ.mpr e]at h;exact h
     .exact .inr ⟨a,by rw[VZ,VQ.mpr e];exact h⟩
   .rw[VP q];refine f _ ?_;by_cases e:x=y
    .rcases h with h|h
     .rw[VZ,akP.mpr e]at h;have j:=UB h;clear h;subst j;exact absurd rfl q
     .exact .inr h
    .rcases h with h|h
     .left;rw[VZ,VQ.mpr e]at h;exact h
     .exact .inr h
theorem aaV{a:VI}{p:FI}{xs:List O}{l:Lc}(F:ph c a p)(hb:p.bind xs=Y l)
  (h:∀f:Fc,f.n=n->f.env.scope=p.scope->(∀x,p.scope.names.lookup x=Y .cell->∃a,f.env.cells.lookup x=Y a)->dZ c f (akS p.body f.env) l σ (λk l' aje=>match k with | .ret x=>Q x aje | .next=>Q .none aje | .brk=>False) λl' x aje=>X x aje) :
  jV c (n+1) (.ref a) xs σ Q X:=by
 intro pv fr A s j G r;refine oQ F λo fd D F=>?_;unfold FI.bind at hb;by_cases b:p.params.length<=xs.length+p.defs.length/\xs.length<=p.params.length
 .rw[VY b]at hb;have Z:=UB hb;clear hb;subst Z;have E:=r.length;have nl:=c.top.nolimit.keeps G.stays;have y:A.depth < recursionLimit:=by have:=G.depth;show A.depth < 1000;lia
  have H:=codeRec_of (ia G) D.code;rcases F with ⟨w,i,m⟩|⟨B,N,i,m⟩
  .refine aU (m s j G.stays (by rw[E];exact b.1) (by rw[E];exact b.2)) λlV L S=>?_;rw[E]at L;refine codeAny_call_def (fd:=fd) (body:=p.body) (binds:=p.params.zip (j++lV)) y (G.stays _ _ D.at_) D.data nl H D.body S w (λx hx=>i _ (akC hx).1) (λI T k=>?_) D.co D.gen D.kind;exact MU (env:=aoL fd s.heap.objs.size a) G (r.append (L.here G)) (ack T k D.closure i D.nodup) D.kind rfl D.globals D.builtins (h _ rfl D.scope λx hx=>absurd rfl (w _ (IY (by rw[D.scope];exact hx))))
  .rw[B]at b;have e:j.length=p.params.length:=E.trans (anL b.2 b.1);refine codeAny_call_cells (fd:=fd) (body:=p.body) (binds:=p.params.zip j) y (G.stays _ _ D.at_) D.data nl H D.body (m j e) D.closure (λx hx=>(i _ (akC hx).1).imp_right λz=>⟨z.1,z.2 _⟩) (λs₁ x=>?_) D.co D.gen D.kind;refine s6 x.toInCall.same λM tk C=>?_;subst C;have z:=MU (t:=tk) (env:=alF fd s.heap.objs.size a) G r (acj x i D.nodup N) D.kind rfl D.globals D.builtins (by have:=h (sub A (alF fd s.heap.objs.size a) fr n pv) rfl D.scope λx hx=>MW _ (.inl (by rw[D.scope];exact hx));rw[B,amV,af1]at this;exact this);exact z
 .rw[VP b]at hb;exact bN hb
end
theorem my(x:Str)(v:O)(y:Str)(l:List (Str×O)):(cC x v l).lookup y=if y=x then Y v else l.lookup y:=by
 have a:∀(n:Str) (w:O) (r:List (Str×O)),aqJ y ((n,w)::r)=if y=n then Y w else r.lookup y:=λn w r=>by
  rw[VZ];by_cases h:y=n
  .rw[VY h,h,ah6]
  .rw[VP h,VQ.mpr h]
 induction l with
 |nil=>unfold cC;exact a x v []
 |cons p r e =>
  obtain⟨n,z⟩:=p;unfold cC;by_cases b:n=x
  .rw[VY (akP.mpr b),a,a,b];by_cases h:y=x
   .rw[VY h,VY h]
   .rw[VP h,VP h,VP h]
  .rw[VP λq=>b (akP.mp q),a,a,e];by_cases h:y=n
   .rw[VY h,VY h,VP λq=>b (h.symm.trans q)]
   .rw[VP h,VP h]
section
variable{c:GC}{f:Fc}{l:Lc}{σ aje:Sg}{s s':VE}{Q Q':QV}{X X':QX}
theorem aQ.qo{P pv:VI->Prop}(j:adM a h h')(i:P a):aQ P pv σ h σ h' :=⟨VJ _,λ_ _=>rfl,λb o e p q=>⟨q,.same ((j.2 b λz=>p (z▸i)).trans e)⟩⟩
theorem Rg.qo{pv:VI->Prop}(G:Rg c n pv fr A σ s)(h:adM a s.heap h')(j:pv a)(p:h'.get? a=Y o)(B:gM o):Rg c n pv fr A σ {s with heap:=h'} where
 stays:=λb o e=>(h.2 b λz=>by have:=(G.dm a j).2.1;rw[z,this]at e;exact bN e).trans (G.stays b o e)
 frames:=frames_at (λenv he L D i e w=>by
  by_cases q:L=a
  .subst q;exact⟨o,p,B⟩
  .exact⟨i,(h.2 L q).trans e,w⟩) G.frames
 stack:=G.stack
 hand:=G.hand
 depth:=G.depth
 units:=G.units
 fy:=G.fy
 dm:=λb q=>by
  refine hY (G.dm b q) λx y i e f=>?_;by_cases z:b=a
  .subst z;exact⟨x,y,o,p,B⟩
  .exact⟨x,y,i,(h.2 b z).trans e,f⟩
 objs:=λk m e=>(G.objs k m e).go (Go.sameBut (V:=σ.V pv) h (Or.inr j)) λb q C i e' _=>(h.2 b λz=>by have:=(G.dm a j).1;rw[←z,C]at this;exact gJ this).trans e'
 own:=λb e=>⟨(G.own b e).1,by
  refine nH (G.own b e) λ_ i y=>?_;by_cases q:b=a
  .subst q;exact⟨o,p⟩
  .exact⟨i,(h.2 b q).trans y⟩⟩
 gens:=G.gens
 os:=G.os
def pD(f:Fc)(x:Str):Prop:=f.env.kindOf x=Y .local∨(f.env.kindOf x=Y .cell/\∃a,f.env.cells.lookup x=Y a)
theorem R.qo(e:R c f l σ s)(i:f.P a)(p:adM a s.heap h')(j:h'.get? a=Y o)(z:gM o)(A:∃m,h'.Ns f.env.locals m)(w:∀b∈f.env.cells.map (·.2),∃v,h'.IsCell b v)(h:∀x y,l'.lookup x=Y y->∃v,fq f.env h' x v/\Rel (σ.V f.pv) h' v y):R c f l' σ {s with heap:=h'}:=⟨e.g.qo p (e.own a i) j z,A,h,w,e.own,e.nd,e.kind,e.glob,e.lR,e.top⟩
theorem zU{Pq:Unit->VE->Prop}{E:VD->VE->Prop}(i:R c f l σ s)(r:Rel (σ.V f.pv) s.heap v y)(hx:pD f x)(h:∀s',R c f (cC x y l) σ s'->aQ f.P f.pv σ s.heap σ s'.heap->Pq () s'):wpAny (VL c.prog c.w) f.A (storeName f.env x v) Pq E s:=by
 rcases hx with M|⟨M,a,L⟩
 .refine VF i.ns λm hm=>?_;refine wpAny_storeName_local M hm (λh' p j=>?_) (by rw[i.kind];rfl);refine gS (id p) λo es ep Z T _=>?_;have go:Go (σ.V f.pv) s.heap (σ.V f.pv) h':=Go.sameBut j (.inr (i.own _ (.inl rfl)));refine h _ ((i.qo (l':=cC x y l) (.inl rfl) j Z (λvs q=>by rw[T]at q;exact kG q) ⟨_,p⟩ (λb q=>VF (i.iB b q) λv x=>⟨v,x.sameBut j λz=>(VU.mp i.nd).1 (z▸q)⟩) λz u e=>?_).tok _) (aQ.qo j (.inl rfl));rw[my]at e;by_cases G:z=x
  .subst G;rw[VY rfl]at e;have N:=UB e;clear e;subst N;refine⟨v,?_,r.go go⟩;unfold fq;rw[M];exact⟨_,p,by simp⟩
  .rw[VP G]at e;refine aU (i.vars z u e) λw k H=>?_;refine⟨w,?_,H.go go⟩;refine k.to (λm' D e'=>⟨_,p,?_⟩) λI C e'=>e'.sameBut j λz=>(VU.mp i.nd).1 (abz.mpr ⟨_,mem_of_lookup C,z⟩);simp only[G,if_false];refine oR hm λo1 es1 ep1 h1 d1 _ f1=>?_;refine oR D λo2 es2 ep2 h2 d2 _ f2=>?_;rw[h1]at h2;have N:=UB h2;clear h2;subst N;rw[d1]at d2;cases d2;rw[←f1,f2];exact e'
 .have pa:f.P a:=.inr (abz.mpr ⟨_,mem_of_lookup L,rfl⟩);have ne:f.env.locals≠a:=λz=>(VU.mp i.nd).1 (abz.mpr ⟨_,mem_of_lookup L,z.symm⟩);refine VF (i.iB a (abz.mpr ⟨_,mem_of_lookup L,rfl⟩)) λv₀ S=>?_;refine wpAny_storeName_cell i.kind M L S λh' p j=>?_;refine aU (id p) λo Z T=>?_;have go:Go (σ.V f.pv) s.heap (σ.V f.pv) h':=Go.sameBut j (.inr (i.own _ pa));refine h _ (i.qo (l':=cC x y l) pa j Z (λvs q=>by rw[T]at q;cases q) (VF i.ns λm hm=>⟨m,hm.sameBut j ne⟩) (λb q=>?_) λz u e=>?_) (aQ.qo j pa)
  .by_cases z:b=a
   .subst z;exact⟨_,p⟩
   .refine VF (i.iB b q) λv x=>?_;exact⟨v,x.sameBut j z⟩
  .have B:f.env.cells.Pairwise λx y=>x.2≠y.2:=by
    have:=(VU.mp i.nd).2;rw[aoe,am5]at this;exact this
   rw[my]at e;by_cases G:z=x
   .subst G;rw[VY rfl]at e;have N:=UB e;clear e;subst N;refine⟨v,?_,r.go go⟩;unfold fq;rw[M];exact⟨a,L,p⟩
   .rw[VP G]at e;refine aU (i.vars z u e) λw k H=>?_;refine⟨w,?_,H.go go⟩;have ca:∀I,f.env.cells.lookup z=Y I->I≠a:=λI h1 q=>G (aoy B (mem_of_lookup h1) (q▸mem_of_lookup L));exact k.to (λm' D e'=>⟨m',D.sameBut j ne,e'⟩) λI C e'=>e'.sameBut j (ca I C)
end
theorem agp{y:Str×O}:∀{r:List (Str×O)},y∈cC x v r->y.1=x∨y.1∈r.map (·.1):=by
 intro r;induction r with
 |nil=>exactλm=>.inl (congrArg (·.1) (akR.mp m))
 |cons p r a =>
  exactλm=>Ql (P:=λl=>y∈l) m (λ_ m=>(WM.mp m).elim (λz=>.inr (by rw[z];exact .head _)) λm=>.inr (.tail _ (aom m)))
   λ_ m=>(WM.mp m).elim (λe=>.inr (by rw[e];exact .head _)) λm=>(a m).imp_right (.tail _)
theorem ago(x:Str)(v:O):∀{l:List (Str×O)},(l.map (·.1)).Nodup->((cC x v l).map (·.1)).Nodup:=by
 intro l;induction l with
 |nil=>exactλ_=>VU.mpr ⟨λh=>(by exact dw h),.nil⟩
 |cons p r i =>
  exactλh=>aeD (b:=p.1 == x) (x:=(p.1,v)::r) (y:=(p.1,p.2)::cC x v r) (P:=λl:List (Str×O)=>(l.map (·.1)).Nodup) (λ_=>h) λa=>VU.mpr ⟨λq=>aU (abz.mp q) λy f e=>(agp f).elim
   (λz=>by rw[show p.1=x from e.symm.trans z,ah6]at a;exact w5 a) λz=>(VU.mp h).1 (by show p.1∈_;rw[←show y.1=p.1 from e];exact z),i (VU.mp h).2⟩
inductive iM (V:Vw) (h:WA):List (Str×VD)->List (Str×O)->Prop
 |nil:iM V h [] []
 |cons {n v x kvs fs}:Rel V h v x->iM V h kvs fs->iM V h ((n,v)::kvs) ((n,x)::fs)
theorem Qx(R:cD V h es fs):∃b,Pairs (strKind P w) es b/\iM V h b fs/\b.map (·.1)=fs.map (·.1) :=
 R.ind (P:=λes fs=>∃b,Pairs (strKind P w) es b/\iM V h b fs/\b.map (·.1)=fs.map (·.1)) ⟨[],.nil,.nil,rfl⟩ λ{_ n t v _ _ _} a _ i=>by
  refine iY i λb p k e=>?_;exact⟨(n,v)::b,.cons (ala P w n t) rfl p,.cons a k,congrArg (n :: ·) e⟩
theorem Rm{f:List (Str×VD)}(p:Pairs (strKind P w) es f):iM V h f fs->(∀e∈es,∃k,(strKind P w).is k e.key=W/\e.hash=(strKind P w).hash k)->cD V h es fs/\KeysLit w.params es:=by
 induction p generalizing fs with
 |nil=>intro k _;cases k;exact⟨.nil,trivial⟩
 | @cons e _ _ _ a b p i =>
  intro k l;cases k with
  |cons r k =>
  refine a9 (i k λx hx=>l x (.tail _ hx)) λC D=>?_;obtain⟨E,y,v⟩:=e;refine VF (amG a) λt j=>?_;subst j;cases b;refine aU (l _ (.head _)) λm z A=>?_;refine VF (amG (show akj m (.str _ t)=W from z)) λG B=>?_;cases B;exact⟨.cons r C,⟨_,t,rfl,A⟩,D⟩
theorem iM.go(g:Go V h V' h'){b:List (Str×VD)}(R:iM V h b fs):iM V' h' b fs:=by
 induction R with
 |nil=>exact .nil
 |cons a _ i=>exact .cons (a.go g) i
theorem afi:∀{kvs:List (Str×VD)},k∉kvs.map (·.1)->kvs.map (λa=>if a.1=k then(a.1,v) else a)=kvs:=by
 intro kvs;induction kvs with
 |nil =>
  exact@λ_=>rfl
 |cons p r b =>
  exact@λh=>by
   rw[WH,WM,not_or]at h;rw[WH,VP (acb h.1),b h.2]
theorem iM.stored(r:Rel V h v x){f:List (Str×VD)}(j:iM V h f fs):(f.map (·.1)).Nodup->iM V h (stored f k v) (cC k x fs):=by
 induction j with
 |nil=>intro _;exact iM.cons r .nil
 | @cons n w y f fs a b i =>
  intro nd;rw[WH,VU]at nd;have i:=i nd.2;unfold PySem.stored at i ⊢;unfold cC;by_cases e:n=k
  .subst e;rw[VY (show(n == n)=W by simp),VY (by simp),WH,VY rfl,afi nd.1];exact iM.cons r b
  .rw[VP (show ¬(n == k)=W by simpa using e)];by_cases q:f.any (λl=>decide (l.1=k))=W
   .rw[VY q]at i;rw[VY (by rw[akU,q,alx]),WH,VP e];exact iM.cons a i
   .rw[VP q]at i;rw[VP (by rw[akU,ahR e,aqn];exact q),List.cons_append];exact iM.cons a i
section
variable{c:GC}{f:Fc}{l:Lc}{σ aje:Sg}{s s':VE}{Q Q':QV}{X X':QX}
def nY(c:GC)(f:Fc)(t:VD->Sem Unit)(x:O)(l:Lc)(σ:Sg)(Q:Lc->Sg->Prop)(X:Lc->QX):Prop :=∀v s,R c f l σ s->Rel (σ.V f.pv) s.heap v x->wpAny (VL c.prog c.w) f.A (t v) (λ_ s'=>KL c f σ s Q s') (dI c f σ s X) s
def xt(c:GC)(f:Fc)(t:VD->VD->VD->Sem Unit)(x y z:O)(l:Lc)(σ:Sg)(Q:Sg->Prop)(X:QX):Prop :=∀v w u s,R c f l σ s->Rel (σ.V f.pv) s.heap v x->Rel (σ.V f.pv) s.heap w y->Rel (σ.V f.pv) s.heap u z->wpAny (VL c.prog c.w) f.A (t v w u) (λ_ s'=>KI c f l σ s Q s') (dI c f σ s λl' x aje=>l'=l/\X x aje) s
theorem gz.loc{X:Lc->QX}(h:dI c f σ s (λl' x aje=>l'=l/\X l x aje) e s'):dI c f σ s X e s' :=let ⟨x,l',aje,a,b,d,e,g⟩:=h;⟨x,l',aje,a,b,d,e▸g⟩
theorem D0{Q:Lc->Sg->Prop}{X:Lc->QX}(hx:pD f x)(h:Q (cC x y l) σ):nY c f (ald (.Name x pos) f.env) y l σ Q X:=λv s e r => assign_Name (zU e r hx λs' a b=>⟨_,σ,a,b,h⟩)
theorem UR{Q:Lc->Sg->Prop}{X:Lc->QX}(h:bG c f o l σ (λa i=>Aj c f (λv w=>aoK v attr w) a y l i (λb=>Q l b) (X l)) (X l)):nY c f (ald (.Attribute o attr pos) f.env) y l σ Q X:=λv s A r=>by
 rw[arm_assign_Attribute];refine wpAny_bind (ab9 (cH (h s A) (λC s₁ a i D j e m=>wpAny_bind (akr (wpAny_bind (ab9 (IS (m C v s₁ j D (r.step e A.own)) (λ_ B b z x q=>?_) λ_ _ p=>?_))))) λ_ _ p=>p.loc))
 .exact wpAny_release ⟨l,b,z,e.trans x,q⟩
 .exact(gz.after e p).loc
theorem UT{Q:Lc->Sg->Prop}{X:Lc->QX}(h:bG c f o l σ (λa x=>bG c f i l x (λb z=>xt c f amL a b y l z (λw=>Q l w) (X l)) (X l)) (X l)):nY c f (ald (.Subscript o i pos) f.env) y l σ Q X:=λv s H r=>by
 rw[arm_assign_Subscript];refine wpAny_bind (ab9 (cH (h s H) (λM s₁ a x N m e A=>wpAny_bind (ab9 (cH (A s₁ m) (λL B b z S C j D=>wpAny_bind (akr (wpAny_bind (ab9
  (IS (D M L v B C (N.step j m.own) S ((r.step e H.own).step j m.own)) (λ_ I w G E q=>?_) λ_ _ p=>?_))))) λ_ _ p=>?_))) λ_ _ p=>p.loc))
 .exact wpAny_release ⟨l,w,G,(e.trans j).trans E,q⟩
 .exact(gz.after (e.trans j) p).loc
 .exact(gz.after e p).loc
def tD(c:GC)(f:Fc)(ts:List (VD->Sem Unit))(xs:List O)(l:Lc)(σ:Sg)(Q:Lc->Sg->Prop)(X:Lc->QX):Prop :=∀vs s,R c f l σ s->bg (σ.V f.pv) s.heap vs xs->wpAny (VL c.prog c.w) f.A (assignInOrder ts vs) (λ_ s'=>KL c f σ s Q s') (dI c f σ s X) s
theorem KA{Q:Lc->Sg->Prop}{X:Lc->QX}(h:Q l σ):tD c f [] [] l σ Q X:=λvs s a r=>by
 refine r.Q1 ?_;exact wpAny_assignInOrder_none ⟨l,σ,a,.refl,h⟩
theorem Kz{t:VD->Sem Unit}{ts:List (VD->Sem Unit)}{Q:Lc->Sg->Prop}{X:Lc->QX}(h:nY c f t x l σ (λi e=>tD c f ts xs i e Q X) X):tD c f (t::ts) (x::xs) l σ Q X:=λvs s B r=>by
 refine r.A9 λ_ _ a r=>?_;exact wpAny_assignInOrder_more (wh (h _ s B a) (λ_ s₁ i e m b w=>wh (w _ s₁ m (r.step b B.own)) (λ_ C A j z y q=>⟨A,j,z,b.trans y,q⟩) λ_ _ p=>p.after b) λ_ _ p=>p)
theorem TM(k:anR h.objs.size h h'):h.StaysIn h':=λb o e=>k b o (abv (WK e)) e
theorem Kc{Q:Lc->Sg->Prop}{X:Lc->QX}(hq:c.quiet=W)(z:(akD elts f.env).length=xs.length)(A:(akD elts f.env).findIdx? (·.1)=Sa)(h:tD c f ((akD elts f.env).map (·.2)) xs l σ Q X):nY c f (ald (.Tuple elts k pos) f.env) (.tup xs) l σ Q X:=λv s x r=>by
 refine r.tupK λ_ _ _ B g r=>?_;refine wpAny_assign_Tuple (x.g.hand hq) ⟨_,g,rfl,_,rfl⟩ (by rw[z,VN,r.length]) A λh' e=>?_;have st:=TM e;have i:=x.grow st;have a:aQ f.P f.pv σ s.heap σ h':=aQ.grow st;exact wh (h _ _ i (r.go (Go.stays st))) (λ_ y w b m j q=>⟨w,b,m,a.trans j,q⟩) λ_ _ p=>gz.after a p
theorem ahx{e:akH}{w:afJ}{A:af2}{E:VD->VE->Prop}{s:VE}{a:VI}{vs:List VD}{n:Nat}{i:Int}{t:Tok}{v:VD}{P:Unit->VE->Prop}(b:IsL s.heap a vs.toArray n)(p:0<=i)(x:i < 2 ^ 63)(hi:i < vs.length)(h:P () {s with heap:=s.heap.update a (am9 (·.setIfInBounds i.toNat v))}):wpAny (VL e w) A (amL (.ref a) (.int i t) v) P E s:=by
 unfold amL
 try with_reducible refine ab9 ?_
 first|refine wpAny_bind (wpAny_pure ?_)|skip
 refine wpAny_bind (ao1 b.isList.typeIs (by decide) ?_);refine wpAny_bind (anF (name:=ano "__setitem__") b.isList.typeIs anG
  (apx anG b.isList.typeIs PySem.entry_list_setitem ?_ (PySem.args_list_setitem _ _ _)))
 show wpAny _ _ (aqg (.int i t) >>= _) _ _ s;refine wpAny_bind (wpAny_listSubscript_int (fitsIndex_of p x) ?_);clear x;refine VF (anH p) λj m=>?_;subst m;have y:j < vs.toArray.size:=by rw[VN];omega
 show wpAny _ _ ((seqItemAt a j >>= λr=>pure (r.map (j,·))) >>= _) _ _ s;refine wpAny_bind (wpAny_bind (wpAny_seqItemAt b rfl (wpAny_pure ?_)));rw[ana y];show wpAny _ _ (setSeqItemAt a j v >>= _) _ _ s;refine wpAny_bind (wpAny_setSeqItemAt b rfl ?_)
 first
  |exact wpAny_bind (wpAny_pure (wpAny_pure ⟨.none,rfl,wpAny_pure h⟩))
  |exact wpAny_pure ⟨.none,rfl,wpAny_pure h⟩
theorem Dj{s:VE}{a:VI}{vs:List VD}{n k:Nat}{m₀:MO}{g:Array VD->Array VD}{ws:List VD}{ys:List O}(m:R c f l σ s)(w:σ.H[k]?=Y m₀)(e:σ.σ a=Y (k,UA))(i:σ.μ k=a)(x:IsL s.heap a vs.toArray n)(p:g vs.toArray=ws.toArray)(r:bg (σ.V f.pv) s.heap ws ys):R c f l (σ.put k (.lst ys)) {s with heap:=s.heap.update a (am9 g)}/\aQ f.P f.pv σ s.heap (σ.put k (.lst ys)) (s.heap.update a (am9 g)):=by
 have b:=x.update g;rw[p]at b;have h:=amF s.heap a (am9 g);have j:σ.σ a≠Sa:=by rw[e];simp
 have go:Go (σ.V f.pv) s.heap (σ.V f.pv) (s.heap.update a (am9 g)):=Go.sameBut h (.inl j);exact⟨m.put w h e ⟨by rw[i];exact e,ws,_,by rw[i];exact b,r.go go⟩ ⟨_,b⟩,aQ.put h j⟩
theorem bg.set(a:Rel V h v x)(k:Nat)(R:bg V h vs xs):bg V h (vs.set k v) (xs.set k x) :=R.ind (P:=λvs xs=>∀k,bg V h (vs.set k v) (xs.set k x)) (λ_=>.nil) (λb r i k=>amQ k (.cons a r) λk=>.cons b (i k)) k
theorem Xz{k:Nat}{xs:List O}{i:Int}{y:O}{Q:Sg->Prop}(m:σ.H[k]?=Y (.lst xs))(x:0<=i)(hi:i < xs.length)(z:i < 2 ^ 63)(h:∀p:Sg,p.H=σ.H.set k (.lst (xs.set i.toNat y))->Q p):xt c f amL (.ref k) (.int i) y l σ Q X:=λv w u s j r A B=>by
 refine A.d7 λt=>r.i5 λ_=>?_;refine dH (j.g.objs k _ m) λe vs n g r=>?_;refine ahx (a:=σ.μ k) (vs:=vs) g x z (by rw[r.length];exact hi) ?_;refine a9 (Dj (ys:=xs.set i.toNat y) (g:=(·.setIfInBounds i.toNat u)) j m e rfl g (show vs.toArray.setIfInBounds i.toNat u=(vs.set i.toNat u).toArray by simp) (bg.set B i.toNat r)) λa b=>?_;exact⟨_,a,b,h _ rfl⟩
theorem Xy{Q:Sg->Prop}(z:σ.H[k]?=Y (.bu fs))(N:fs.length<=WI)(h:∀I:Sg,I.H=σ.H.set k (.bu (cC x y fs))->Q I):xt c f amL (.ref k) (.str x) y l σ Q X:=λv w u s j r r' ry=>by
 refine r'.i7 λt=>r.i5 λ_=>?_;refine zx (j.g.objs k _ z) λe es n g r S nd=>?_;refine iY (Qx (P:=c.prog) (w:=c.w) r) λkvs p T A=>?_;have B:(kvs.map (·.1)).Nodup:=by rw[A];exact nd
 have D:s.heap.DictOf (aoj c.prog c.w) (σ.μ k) kvs:=⟨_,es.toArray,n,g,⟨rfl,rfl,rfl⟩,rfl,λe he=>by
  refine oQ (S.all e (by simpa using he)) λx t e1 e2=>?_;exact⟨x,by rw[e1];exact ala _ _ x t,e2⟩,by simpa using p,B⟩
 refine wpAny_setItem_pairs (ala _ _ x t) D (λh' L b=>?_) (by rw[show kvs.length=fs.length by rw[←VO (f:=(·.1)),A,VO]];exact N);obtain⟨o,a,n',M,⟨C,E,G⟩,od,ok,op,on⟩:=L;have go:Go (σ.V f.pv) s.heap (σ.V f.pv) h':=Go.sameBut b (.inl (by show σ.σ (σ.μ k)≠Sa;rw[e];simp));refine a9 (Rm op (iM.stored (ry.go go) (T.go go) B) λq hq=>ok q (by simpa using hq)) λr1 r2=>?_;have i:h'.get? (σ.μ k)=Y (ace a.toList n'):=by
  obtain⟨oc,odi,oda,osl⟩:=o;dsimp only at C E G od;subst C E G od;exact M
 have Z:σ.σ (σ.μ k)≠Sa:=by rw[e];simp
 exact⟨σ.put k (.bu (cC x y fs)),(j.put (m:=.bu (cC x y fs)) z b e ⟨e,a.toList,n',i,r1,r2,ago _ _ nd⟩ ⟨_,i⟩).tok _,aQ.put b Z,h _ rfl⟩
end
noncomputable def jy(sc:akz):Env:=⟨sc,0,0,[],Str.empty,Sa,.none,Sa,0⟩
theorem TQ(ts:List VC)(v:VC)(env:Env):aks ts v env=aks ts v (jy env.scope):=rfl
theorem TS(ts:List VC)(v:VC)(n:Nat)(env:Env):amf ts v n env=amf ts v n (jy env.scope):=by
 cases ts with
 |nil=>rfl
 |cons t r=>cases r<;>rfl
theorem aif(v:VC)(t:Option VC)(n:Nat)(env:Env):amS v t n env=amS v t n (jy env.scope):=rfl
abbrev QF:=Fl->Lc->Sg->Prop
section
variable{c:GC}{f:Fc}{l:Lc}{σ aje:Sg}{s s':VE}{Q:QF}{X:Lc->QX}
theorem gz.up{X:Lc->QX}(h:dI c f σ s (λl' x aje=>l'=l/\X l x aje) e s'):dI c f σ s X e s':=h.loc
theorem KP(h:Q .next l σ):dZ c f (akS [] f.env) l σ Q X:=λs a=>wpAny_execs_nil ⟨.next,l,σ,trivial,a,.refl,h⟩
theorem KO{st:ajc}{rest:List ajc}(h:dZ c f (al9 st f.env) l σ (λk b a=>match k with | .next=>dZ c f (akS rest f.env) b a Q X|k=>Q k b a) X):dZ c f (akS (st::rest) f.env) l σ Q X:=λs B =>
 wpAny_execs_cons (nz (h s B) (λfl s₁ k b a r j i q=>by
  induction k using vv with
  |next=>rw[r.nx];exact nz (q s₁ j) (λfl A k z m r y w q=>⟨k,z,m,r,y,i.trans w,q⟩) λ_ _ p=>p.after i
  |brk=>rw[r.bk];exact⟨.brk,b,a,trivial,j,i,q⟩
  |ret x=>refine aU r.rt λv e r=>?_;rw[e];exact⟨.ret x,b,a,r,j,i,q⟩) λ_ _ p=>p)
theorem XZ(h:gk c f test l σ (λb e=>if b then dZ c f (akS body f.env) l e Q X else dZ c f (akS orelse f.env) l e Q X) (X l)):dZ c f (al9 (.If test body orelse pos) f.env) l σ Q X:=λs z =>
 wpAny_If (hW (h s z) (λb s₁ e x a q=>by
  induction b using cB with
  |true=>exact nz (q s₁ x) (λfl y k w i r m j q=>⟨k,w,i,r,m,a.trans j,q⟩) λ_ _ p=>p.after a
  |false=>exact nz (q s₁ x) (λfl y k w i r m j q=>⟨k,w,i,r,m,a.trans j,q⟩) λ_ _ p=>p.after a) λ_ _ p=>p.up)
theorem X3(h:bG c f e l σ (λx a=>Q (.ret x) l a) (X l)):dZ c f (al9 (.Return (Y e) pos) f.env) l σ Q X:=λs j => wpAny_Return_some (cH (h s j) (λv s₁ x a r i b q=>⟨.ret x,l,a,r,i,b,q⟩) λ_ _ p=>p.up)
theorem X4(h:Q (.ret .none) l σ):dZ c f (al9 (.Return Sa pos) f.env) l σ Q X:=λs a=>wpAny_Return_none ⟨.ret .none,l,σ,.none,a,.refl,h⟩
theorem X1(h:Q .next l σ):dZ c f (al9 (.Pass pos) f.env) l σ Q X:=λs a=>wpAny_Pass ⟨.next,l,σ,trivial,a,.refl,h⟩
theorem XW(h:Q .brk l σ):dZ c f (al9 (.Break pos) f.env) l σ Q X:=λs a=>wpAny_Break ⟨.brk,l,σ,trivial,a,.refl,h⟩
theorem XY(m:amS e Sa pos.line (jy f.env.scope)=pure UA)(h:bG c f e l σ (λx a=>Q .next l a) (X l)):dZ c f (al9 (.Expr e pos) f.env) l σ Q X:=λs j =>
 wpAny_Expr_any (cH (h s j) (λv s₁ x a r i b q=>⟨.next,l,a,trivial,i,b,q⟩) λ_ _ p=>p.up) (by unfold interactive;rw[j.kind];rfl) m
theorem Ap(A:amf [t] value pos.line (jy f.env.scope)=pure UA)(hw:aks [t] value (jy f.env.scope)=pure Sa)(he:(akD [t] f.env).map (·.2)=[ald t f.env])(h:bG c f value l σ (λx e=>nY c f (ald t f.env) x l e (λb a=>Q .next b a) X) (X l)):dZ c f (al9 (.Assign [t] value pos) f.env) l σ Q X:=λs z =>
 wpAny_Assign_stores (cH (h s z) (λv s₁ x e r j i q=>by
  rw[he];exact wh (q v s₁ j r) (λ_ y b a w m q=>⟨.next,b,a,trivial,w,i.trans m,q⟩) λ_ _ p=>p.after i) λ_ _ p=>p.up)
  (by rw[TS];exact A) (by rw[TQ];exact hw)
theorem bg.reverse(R:bg V h vs xs):bg V h vs.reverse xs.reverse :=R.ind (P:=λvs xs=>bg V h vs.reverse xs.reverse) .nil λa _ i=>by rw[aeK,aeK];exact i.append (.cons a .nil)
theorem Wl{Q:Lc->Sg->Prop}{a:List Str}:∀{xs:List O}{l:Lc},a.length=xs.length->(∀n∈a,pD f n)->Q ((a.zip xs).foldl (λl p=>cC p.1 p.2 l) l) σ->tD c f (a.map λn=>bindName f.env n) xs l σ Q X:=by
 induction a with
 |nil =>
  intro xs l e _ h;induction xs using cL with
  |nil=>exact KA h
  |cons _ _=>exact absurd e (akv _).symm
 |cons n a y =>
  intro xs l e b h;induction xs using cL with
  |nil=>exact absurd e (akv _)
  |cons x xs=>exact Kz λv s w r=>wpAny_bindName (zU w r (b n (.head _)) λs' i j =>
    ⟨cC n x l,σ,i,j,y (amo e) (λm hm=>b m (.tail _ hm)) h⟩)
theorem X5(hq:c.quiet=W)(L:amf [t] value pos.line (jy f.env.scope)=pure UA)(hw:aks [t] value (jy f.env.scope)=pure (Y w))(I:∀n∈w,pD f n)(h:bG c f value l σ (λx b=>∃xs,x = .tup xs/\xs.length=w.length/\Q .next ((w.reverse.zip xs.reverse).foldl (λl p=>cC p.1 p.2 l) l) b) (X l)):dZ c f (al9 (.Assign [t] value pos) f.env) l σ Q X:=λs H=>by
 rw[arm_exec_Assign];refine wpAny_bind (akr ?_);rw[TS,L];refine wpAny_bind (wpAny_pure ?_);rw[VP (by decide)];refine wpAny_bind (cH (h s H) (λv s₁ x b r j i N=>iY N λxs G el q=>?_) λ_ _ p=>p.up);rw[TQ,hw];refine wpAny_bind (wpAny_pure ?_);subst G;refine r.tupK λa vs n S g r=>?_
 .unfold assignStores;refine wpAny_bind (anb ?_);have M:w.length=vs.toArray.size:=by rw[VN,r.length,el]
  rw[M];refine wpAny_bind (apR (j.g.hand hq) ⟨_,g,rfl,_,rfl⟩ λh' e=>?_);have st:=TM e;have z:=j.grow st;have m:aQ f.P f.pv b s₁.heap b h':=aQ.grow st;refine wpAny_bind (wh (Wl (X:=X) (Q:=λl' aje=>Q .next l' aje) (by rw[aeG,aeG,el]) (λn D=>I n (anl.mp D)) q vs.toArray.toList.reverse _ z (by simpa using (r.go (Go.stays st)).reverse)) (λ_ E y B C A q=>?_) λ_ _ p=>gz.after (i.trans m) p);exact wpAny_pure ⟨.next,y,B,trivial,C,(i.trans m).trans A,q⟩
theorem XU(ha:∀H E e,augStore i H E e=(do holding [e,H,E] (amL H E e);release [e,H,E] [];pure .next))
  (h:bG c f o l σ (λa L=>bG c f i l L (λb M=>bV c f ang a b l M (λG N=>bG c f value l N (λy T=>bV c f (inplaceOp op) G y l T (λe I=>xt c f amL a b e l I (λx=>Q .next l x) (X l)) (X l)) (X l)) (X l)) (X l)) (X l)) :
  dZ c f (al9 (.AugAssign (.Subscript o i tpos) op value pos) f.env) l σ Q X:=λs hR =>
 wpAny_AugAssign_SubscriptAny (cH (h s hR) (λH s₁ a L ra A w ajj=>cH (ajj s₁ A) (λE ajl b M rb B j ajo =>
  cH (ajo H E ajl B (ra.step j A.own) rb) (λG ajv c' N rc S C ajD=>cH (ajD ajv S) (λv ajG y T ry ajw D ajM =>
   cH (ajM G v ajG ajw (rc.step D S.own) ry) (λe ajN z I rz ajO Z ajP=>by
    have m:=(C.trans D).trans Z;exact IS (ajP H E e ajN ajO ((ra.step j A.own).step m B.own) (rb.step m B.own) rz) (λ_ aj2 x ajV ajU q=>⟨.next,l,x,trivial,ajV,((w.trans j).trans m).trans ajU,q⟩) λ_ _ p=>(gz.after ((w.trans j).trans m) p).up)
    λ_ _ p=>(gz.after (((w.trans j).trans C).trans D) p).up) λ_ _ p=>(gz.after ((w.trans j).trans C) p).up) λ_ _ p=>(gz.after (w.trans j) p).up) λ_ _ p=>(gz.after w p).up) λ_ _ p=>p.up) ha
end
theorem afI(e:VD)(h:env.frame=env'.frame):amR e env=amR e env':=by
 unfold amR PySem.frameOf;rw[h]
section
variable{c:GC}{f:Fc}{l:Lc}{σ aje:Sg}{s s':VE}{Q:QF}{X:Lc->QX}{tg:VC}
theorem Ja{P:Unit->VE->Prop}{E:VD->VE->Prop}(b:R c f l σ s)(T:dY c f.fl (σ.V f.pv) s.heap e x)(h:∀h' a,e = .ref a->R c f l σ {s with heap:=h'}->dY c f.fl (σ.V f.pv) h' e x->fO c.base a (.ref x.C) f.fl h'->aQ f.P f.pv σ s.heap σ h'->P () {s with heap:=h'}):wpAny (VL c.prog c.w) f.A (amR e f.env) P E s:=by
 refine VF T.ref λa i=>?_;subst i;refine gS b.top λG M L eZ p y=>?_;refine nJ T.lK λN vs e1 e2 H I m=>?_;have jc:f.fl=rawInt L:=by unfold Fc.fl;rw[y]
 rw[afI (env':=G) _ (y.trans p.symm)];refine Ri (by rw[b.g.stack,eZ]) (eZ▸b.g.frames) p e1 b.g.stays I H (by rw[e2,←jc];exact m) λh' j=>?_;rw[e2,←eZ,←jc]at j;refine fw (IL b T j (.inr rfl)) λz B D=>?_;exact h h' a rfl z B j.lK D
theorem BZ{P:Unit->VE->Prop}{E:VD->VE->Prop}(b:R c f l σ s)(T:dY c f.fl (σ.V f.pv) s.heap (.ref a) x)(z:fO c.base a (.ref x.C) fl s.heap)(eZ:fr=Sa∨fr=f.env.frame)(h:∀h',R c f l σ {s with heap:=h'}->dY c f.fl (σ.V f.pv) h' (.ref a) x->fO c.base a (.ref x.C) (fr.elim .none λf=>rawInt f) h'->aQ f.P f.pv σ s.heap σ h'->P () {s with heap:=h'}):wpAny (VL c.prog c.w) f.A (aqf (.ref a) fr) P E s:=by
 refine Tu (l:=f.fr) b.g.frames b.g.stays z λh' e=>?_;refine gS b.top λB y L _ D i=>?_;obtain⟨j,m,p⟩:=IL b T e (by
  rcases eZ with rfl|rfl
  .exact .inl rfl
  .right;rw[i];unfold Fc.fl;rw[i];rfl)
 exact h h' j m e.lK p
theorem C3(P:dI c f σ s X e s'):aqa (VL c.prog c.w) f.A f.env (λe s'=>cameBackBy (VL c.prog c.w) f.A f.env (λe s'=>dI c f σ s X e s') e s') e s':=by
 obtain⟨x,l',aje,T,h,m,q⟩:=P;refine Ja h T λh' a B i p b S1=>?_;subst B;refine Jl (id b) λL vs y I ts C G D E H=>?_;unfold cameBackBy;refine wpAny_bind (akB C D E ?_);rw[VP (show ¬((acm y == alE)=W) from by simp)];refine BZ (s:={ s' with heap:=h'}) i p b (.inr rfl) λh2 j z _ S2=>?_;exact⟨x,l',aje,z,j,(m.trans S1).trans S2,q⟩
def Wh(c:GC)(f:Fc)(a:VC)(body:List ajc)(Q:QF)(X:Lc->QX):Nat->Lc->Sg->Prop
 |0,_,_=>False
 |n+1,l,σ=>gk c f a l σ (λb i=>if b then dZ c f (akS body f.env) l i (λk h e=>match k with
   | .next=>Wh c f a body Q X n h e
   | .brk=>Q .next h e
   | .ret x=>Q (.ret x) h e) X else Q .next l i) (X l)
theorem X7(n:Nat)(h:Wh c f test body Q X n l σ):dZ c f (al9 (.While test body [] pos) f.env) l σ Q X:=λs I=>by
 refine wpAny_While (codeAny_whileLoop (λm s₁=>∃l' aje,R c f l' aje s₁/\aQ f.P f.pv σ s.heap aje s₁.heap/\Wh c f test body Q X m l' aje) (λm s₁ z=>?_) n ⟨l,σ,I,.refl,h⟩);refine mG z λl' aje G B w=>?_;induction m using cN with
 |zero=>exact w.elim
 |succ m =>
  refine hW (w s₁ G) (λb D C A i q=>?_) λ_ _ p=>C3 (gz.after B p.up);induction b using cB with
  |true =>
   refine nz (q D A) (λfl H k a j r y E q=>?_) λ_ _ p=>C3 (gz.after (B.trans i) p);have S:=(B.trans i).trans E;induction k using vv with
   |next=>rw[r.nx];exact⟨m,af5 m,a,j,y,S,q⟩
   |brk=>rw[r.bk];exact⟨.next,a,j,trivial,y,S,q⟩
   |ret x=>refine aU r.rt λv e r=>?_;rw[e];exact⟨.ret x,a,j,r,y,S,q⟩
  |false=>exact wpAny_execs_nil ⟨.next,l',C,trivial,A,B.trans i,q⟩
structure nU (c:GC) (f:Fc) (tg:VC) (it:VI) (fp:List VI) (St:Nat->Sg->WA->Prop) (give:Nat->bp) (stop:Nat->List MO->Prop):Prop where
 there:∀{i σ h},St i σ h->∀b∈fp,σ.σ b=Sa/\c.base.get? b=Sa/\∃o,h.get? b=Y o/\iz o
 keep:∀{i l σ s aje h'},R c f l σ s->St i σ s.heap->aQ f.P f.pv σ s.heap aje h'->c.base.StaysIn h'->St i aje h'
 item:∀{i l σ s x} {P:Option VD->VE->Prop}{E:VD->VE->Prop},R c f l σ s->St i σ s.heap->give i x σ.H ->
  (∀v h' t,(∀(P2:Unit->VE->Prop) (E2:VD->VE->Prop),
    (∀h'',(∀b o,b∉fp->s.heap.get? b=Y o->h''.get? b=Y o)->St (i+1) σ h''->Rel (σ.V f.pv) h'' v x->P2 () {s with heap:=h'',toks:=t}) ->
    wpAny (VL c.prog c.w) f.A (alO tg (.ref it) v) P2 E2 {s with heap:=h',toks:=t})->P (Y v) {s with heap:=h',toks:=t}) ->
  wpAny (VL c.prog c.w) f.A (apS (.ref it)) P E s
 fin:∀{i l σ s} {P:Option VD->VE->Prop}{E:VD->VE->Prop},R c f l σ s->St i σ s.heap->stop i σ.H->(∀h' t,(∀b o,b∉fp->s.heap.get? b=Y o->h'.get? b=Y o)->P Sa {s with heap:=h',toks:=t})->wpAny (VL c.prog c.w) f.A (apS (.ref it)) P E s
theorem iz.I8(i:iz o):¬Rv o:=by
 refine uX i λa T e _=>?_;refine VF a λvs d=>?_
 rintro (f|⟨C,q⟩)
 .exact f vs d
 .rw[e]at q;cases q
theorem Go.fp{V:Vw}{h h':WA}{fp:List VI}(a:∀b∈fp,∃o,h.get? b=Y o/\iz o)(k:∀b o,b∉fp->h.get? b=Y o->h'.get? b=Y o):Go V h V h' :=
 ⟨VJ _,λ_ _=>rfl,λ_ _ _ t=>t,λb o e _ r=>⟨o,k b o (λq=>by
  refine aU (a b q) λm e' i=>?_;rw[e]at e';have j:=UB e';clear e';subst j;exact i.I8 r) e,.rfl⟩⟩
theorem R.fp{h':WA}{fp:List VI}{t:Nat}(a:R c f l σ s)(j:∀b∈fp,σ.σ b=Sa/\c.base.get? b=Sa/\∃o,s.heap.get? b=Y o/\iz o)(k:∀b o,b∉fp->s.heap.get? b=Y o->h'.get? b=Y o):R c f l σ {s with heap:=h',toks:=t}:=by
 have h:∀b o,s.heap.get? b=Y o->Rv o->h'.get? b=Y o:=λb o e r=>k b o (λq=>by
  refine hY (j b q) λ_ _ B e' i=>?_;rw[e]at e';have p:=UB e';clear e';subst p;exact i.I8 r) e
 have go:Go (σ.V f.pv) s.heap (σ.V f.pv) h':=⟨VJ _,λ_ _=>rfl,λ_ _ _ t=>t,λb o e _ r=>⟨o,h b o e r,.rfl⟩⟩;refine(a.move (s':={s with heap:=h'}) ⟨λb o e=>k b o (λq=>by rw[(j b q).2.1]at e;exact bN e) (a.g.stays b o e),a.g.frames.of_keeps λb o e n=>⟨o,h b o e (.inl n),rfl⟩,a.g.stack,a.g.hand,a.g.depth,a.g.units,a.g.fy,λb q=>?_,λi m e=>?_,λb q=>?_,a.g.gens,a.g.os⟩ go λb q o e=>?_).tok t
 .refine hY (a.g.dm b q) λx y o e w=>?_;exact⟨x,y,o,h b o e (.inl w),w⟩
 .exact(a.g.objs i m e).go go λb q _ o A n=>h b o A n
 .refine nH (a.g.own b q) λx o e=>?_;exact⟨x,o,k b o (λz=>q (j b z).1) e⟩
 .refine hY (a.g.dm b (a.own b q)) λ_ _ C e2 n=>?_;rw[e]at e2;have p:=UB e2;clear e2;subst p;exact⟨o,h b o e (.inl n),rfl⟩
def lg(P:VI->Prop)(σ:Sg)(h:WA)(b:VI):Prop:=∀o,h.get? b=Y o->¬P b->σ.σ b=Sa->False
theorem aQ.fp{P pv:VI->Prop}{h h1 h':WA}{fp:List VI}(S:aQ P pv σ h aje h1)(fr:∀b∈fp,lg P σ h b)(k:∀b o,b∉fp->h1.get? b=Y o->h'.get? b=Y o):aQ P pv σ h aje h' :=
 ⟨S.n,S.mu,λb o e p q=>by
  have j:b∉fp:=λz=>fr b z o e p q;refine wB (S.keep b o e p q) λa r i m x=>?_;exact⟨a,λz=>aU (r z) λy e2 w=>⟨y,k b y j e2,w⟩,λz=>k b o j (i z),m,k b m j x⟩⟩
inductive Vz (c:GC) (f:Fc) (tg:VC) (l:Lc) (σ:Sg) (s:VE) (QI:(Nat->bp)->(Nat->List MO->Prop)->Sg->Prop) (itv:VD) (ajl:VE):Prop
 |mk (it:VI) (fp:List VI) (St:Nat->Sg->WA->Prop) (give:Nat->bp) (stop:Nat->List MO->Prop) (aje:Sg) (ei:itv = .ref it) (aji:R c f l aje ajl) (ajh:aQ f.P f.pv σ s.heap aje ajl.heap)
  (D:nU c f tg it fp St give stop) (fr:∀b∈fp,lg f.P σ s.heap b) (st:St 0 aje ajl.heap) (q:QI give stop aje)
def AD(c:GC)(f:Fc)(tg:VC)(e:VC)(l:Lc)(σ:Sg)(a:(Nat->bp)->(Nat->List MO->Prop)->Sg->Prop)(X:QX):Prop :=∀s,R c f l σ s->wpAny (VL c.prog c.w) f.A (eval e f.env) (λv s₁=>wpAny (VL c.prog c.w) f.A (an2 v) (Vz c f tg l σ s a) (dI c f σ s λl' x aje=>l'=l/\X x aje) s₁) (dI c f σ s λl' x aje=>l'=l/\X x aje) s
def Fo(c:GC)(f:Fc)(a:VC)(body:List ajc)(Q:QF)(X:Lc->QX)(b:Nat->bp)(e:Nat->List MO->Prop):Nat->Nat->Lc->Sg->Prop
 |0,_,_,_=>False
 |n+1,i,l,σ=>(∃x,b i x σ.H/\nY c f (ald a f.env) x l σ (λp m=>dZ c f (akS body f.env) p m (λk j h=>match k with
   | .next=>Fo c f a body Q X b e n (i+1) j h
   | .brk=>Q .next j h
   | .ret x=>Q (.ret x) j h) X) X)∨(e i σ.H/\Q .next l σ)
inductive Vt (c:GC) (f:Fc) (target:VC) (body:List ajc) (Q:QF) (X:Lc->QX) (give:Nat->bp) (stop:Nat->List MO->Prop) (St:Nat->Sg->WA->Prop) (σ:Sg) (s:VE) (m:Nat) (s₁:VE):Prop
 |mk (i:Nat) (l':Lc) (aje:Sg) (R':R c f l' aje s₁) (S':aQ f.P f.pv σ s.heap aje s₁.heap) (st:St i aje s₁.heap) (w:Fo c f target body Q X give stop m i l' aje)
theorem Ed{a j:VC}{body:List ajc}{pos:Pos}(hs:∀x,agc j f.env x=pure x)(h:AD c f a j l σ (λb y E=>∃n,Fo c f a body Q X b y n 0 l E) (X l)): dZ c f (al9 (.For a j body [] pos) f.env) l σ Q X:=λs hR=>by
 refine wpAny_For (WD (h s hR) (λv s₁ ajj=>WD ajj (λitv ajl z=>?_) λ_ _ p=>p.up) λ_ _ p=>p.up) hs;induction z with
 |mk it fp St b y E ei aji Z D fr st q =>
 refine VF q λn w=>?_;subst ei;refine codeAny_forLoop_any (Vt c f a body Q X b y St σ s) (λm s₁ z=>?_) n ⟨0,l,E,aji,Z,st,w⟩;induction z with
 |mk i l' aje M S' B N =>
 induction m using cN with
 |zero=>exact N.elim
 |succ m =>
  rcases N with ⟨x,gx,N⟩|⟨sp,q⟩
  .refine D.item M B gx λv h' t go=>go _ _ λh'' k st2 rv=>?_;have ft:=D.there B;have R2:R c f l' aje {s₁ with heap:=h'',toks:=t}:=M.fp ft k;have S2:aQ f.P f.pv σ s.heap aje h'':=S'.fp fr k;refine wh (N v _ R2 rv) (λ_ ajv ajK ajq H G T=>?_) λ_ _ p=>C3 (gz.after S2 p);have st3:=D.keep R2 st2 G H.g.stays;refine nz (T ajv H) (λfl ajG k C I r A L q=>?_) λ_ _ p=>C3 (gz.after (S2.trans G) p);have S:=(S2.trans G).trans L;induction k using vv with
   |next=>rw[r.nx];exact⟨m,af5 m,i+1,C,I,A,S,D.keep H st3 L A.g.stays,q⟩
   |brk=>rw[r.bk];exact⟨.next,C,I,trivial,A,S,q⟩
   |ret x=>refine aU r.rt λv e r=>?_;rw[e];exact⟨.ret x,C,I,r,A,S,q⟩
  .refine D.fin M B sp λh' t k=>wpAny_execs_nil ⟨.next,l',aje,trivial,M.fp (D.there B) k,S'.fp fr k,q⟩
theorem lg.of{P pv:VI->Prop}(S:aQ P pv σ h aje h1)(e:h1.get? b=Sa):lg P σ h b:=λo a p q=>by
 refine wB (S.keep b o a p q) λ_ _ _ i e'=>?_;rw[e]at e';exact bN e'
def D9(St:(VI->Prop)->Nat->Sg->WA->Prop):Prop :=∀{pv a:VI->Prop}{i:Nat}{σ aje:Sg}{h h':WA},St pv i σ h->Go (σ.V pv) h (aje.V a) h'->(∀b o,h.get? b=Y o->iz o->σ.σ b=Sa->aje.σ b=Sa/\h'.get? b=Y o)->St a i aje h'
def KR(c:GC)(it:VI)(St:(VI->Prop)->Nat->Sg->WA->Prop):Prop:=∀{f':Fc}{l:Lc}{i:Nat}{σ:Sg}{s:VE}{P:VD->VE->Prop}{E:VD->VE->Prop},R c f' l σ s->St f'.pv i σ s.heap->P (.ref it) s->wpAny (VL c.prog c.w) f'.A (an2 (.ref it)) P E s
def qI(c:GC)(f:Fc)(tg:VC)(x:O)(σ:Sg)(a:Nat->bp)(e:Nat->List MO->Prop):Prop :=∀{l v s} {P:VD->VE->Prop}{E:VD->VE->Prop},R c f l σ s->Rel (σ.V f.pv) s.heap v x->(∀it fp St h' t,(∀f',nU c f' tg it fp (St f'.pv) a e)->D9 St->KR c it St->(∀b∈fp,s.heap.get? b=Sa)->s.heap.StaysIn h'->St f.pv 0 σ h'->P (.ref it) {s with heap:=h',toks:=t})->wpAny (VL c.prog c.w) f.A (an2 v) P E s
theorem V0{e:VC}{y:(Nat->bp)->(Nat->List MO->Prop)->Sg->Prop}{X:QX}(h:bG c f e l σ (λx j=>∃a i,qI c f tg x j a i/\y a i j) X):AD c f tg e l σ y X:=λs A => cH (h s A) (λv s₁ x j r w m C=>oQ C λa i ok q=>ok w r λit fp St h' t D _ _ fr st B => ⟨it,fp,St f.pv,a,i,j,rfl,(w.grow st).tok t,m.trans (aQ.grow st),D f,λb z=>lg.of m (fr b z),B,q⟩) λ_ _ p=>p
noncomputable def Jp(T:String):Bool:=!["enumerate","zip","dict_itemiterator","dict_reverseitemiterator","odict_iterator","itertools.zip_longest","itertools.pairwise"].contains T
set_option backward.match.sparseCases true in
noncomputable def afa(it a:VI):Sem Unit:=do
 let o ←load it
 match o.cls,o.data with
 | .type n,.fields vs =>
  if ["enumerate", "zip", "dict_itemiterator", "dict_reverseitemiterator", "odict_iterator", "itertools.zip_longest", "itertools.pairwise"].contains n&&vs[0]? == Y (rawInt a) then
   rule "for.unpacks-the-owned-tuple"
   updateField it 0 .none
 |_,_=>pure ()
theorem afb(b:VC)(it:VI)(v:VD):alO b (.ref it) v=pure ()∨∃a,alO b (.ref it) v=afa it a:=by
 cases b<;>first|exact .inl rfl|(cases v<;>first|exact .inl rfl|exact .inr ⟨_,rfl⟩)
theorem OE{P:Unit->VE->Prop}{E:VD->VE->Prop}(e:s.heap.get? it=Y o)(j:o.cls = .type T)(m:o.data = .fields vs)(i:Jp T=W)(h:P () s): wpAny (VL c.prog c.w) f.A (alO b (.ref it) v) P E s:=by
 rcases afb b it v with q|⟨a,q⟩
 .rw[q];exact wpAny_pure h
 .rw[q];refine wpAny_bind (wpAny_load e ?_);rw[j,m];dsimp only;have:(["enumerate", "zip", "dict_itemiterator", "dict_reverseitemiterator", "odict_iterator", "itertools.zip_longest", "itertools.pairwise"].contains T)=UA:=by
   unfold Jp at i;simpa using i
  rw[this,Bool.false_and,VP (by decide)];exact wpAny_pure h
theorem CL{i:Nat}{it:VI}{o:Obj}{l:Lc}{σ aje:Sg}{s:VE}{h':WA}(h:R c f l σ s)(e:s.heap.get? it=Y o)(j:iz o)(un:σ.σ it=Sa)(S:aQ f.P f.pv σ s.heap aje h'):aje.σ it=Sa/\h'.get? it=Y o:=by
 have m:¬f.P it:=λq=>by
  refine hY (h.g.dm it (h.own it q)) λ_ _ w e2 n=>?_;rw[e]at e2;have p:=UB e2;clear e2;subst p;refine a9 j λb _=>?_;refine VF b λvs d=>?_;exact n vs d
 refine hX (S.keep it o e m un) λa _ i _=>?_;exact⟨a,i j⟩
theorem ahv(b:R c f l σ s)(e:s.heap.get? a=Y o)(n:gM o)(t:¬(σ.V f.pv).T a)(S:aQ f.P f.pv σ s.heap aje h'):¬(aje.V f.pv).T a/\h'.get? a=Y o :=(S.go b.own).same t e n
def iL(c:GC)(it:VI)(T:String)(D:Array VD)(σ:Sg)(h:WA):Prop:=σ.σ it=Sa/\c.base.get? it=Sa/\∃o,h.get? it=Y o/\o.cls = .type T/\o.data = .fields D
theorem iL.mr(j:T ≠ "traceback")(x:iL c it T D σ h):∀b∈[it],σ.σ b=Sa/\c.base.get? b=Sa/\∃o,h.get? b=Y o/\iz o:=λb q=>by
 rw[akR.mp q];refine jO x λa b o e d1 i=>?_;exact⟨a,b,o,e,⟨_,i⟩,T,d1,j⟩
theorem iL.keep{it:VI}{T:String}{D:Array VD}{l:Lc}{σ aje:Sg}{s:VE}{h':WA}(m:T ≠ "traceback")(j:R c f l σ s)(x:iL c it T D σ s.heap)(S:aQ f.P f.pv σ s.heap aje h'):iL c it T D aje h':=by
 refine jO x λa b o e d1 h=>?_;refine a9 (CL (i:=0) j e ⟨⟨_,h⟩,T,d1,m⟩ a S) λx y=>?_;exact⟨x,b,o,y,d1,h⟩
theorem N4(k:anR it h h'):∀b o,b∉[it]->h.get? b=Y o->h'.get? b=Y o:=λb o n e=>k b o (λq=>n (by rw[q];exact .head _)) e
theorem DM(k:adM it h h'):∀b o,b∉[it]->h.get? b=Y o->h'.get? b=Y o:=λb o n e=>(k.2 b λq=>n (by rw[q];exact .head _)).trans e
theorem xW{it:VI}{T:String}{D:Nat->Array VD}{Src:Sg->WA->Prop}{a:Nat->bp}{stop:Nat->List MO->Prop}(B:T ≠ "traceback")(pl:Jp T=W)(y:∀{l σ s aje h'},R c f l σ s->Src σ s.heap->aQ f.P f.pv σ s.heap aje h'->c.base.StaysIn h'->Src aje h')(p:∀{σ h h'},Src σ h->(∃o,h.get? it=Y o/\iz o)->(∀b o,b∉[it]->h.get? b=Y o->h'.get? b=Y o)->Src σ h')(G:∀{i l σ s x} {P:Option VD->VE->Prop}{E:VD->VE->Prop},R c f l σ s->iL c it T (D i) σ s.heap->Src σ s.heap->a i x σ.H -> (∀v h' t,(∃o,h'.get? it=Y o/\o.cls = .type T/\o.data = .fields (D (i+1)))->adM it s.heap h'->Rel (σ.V f.pv) s.heap v x->P (Y v) {s with heap:=h',toks:=t})->wpAny (VL c.prog c.w) f.A (apS (.ref it)) P E s)(z:∀{i l σ s} {P:Option VD->VE->Prop}{E:VD->VE->Prop},R c f l σ s->iL c it T (D i) σ s.heap->Src σ s.heap->stop i σ.H->(∀h' t,anR it s.heap h'->P Sa {s with heap:=h',toks:=t})->wpAny (VL c.prog c.w) f.A (apS (.ref it)) P E s): nU c f tg it [it] (λi σ h=>iL c it T (D i) σ h/\Src σ h) a stop:=by
 refine⟨λst=>st.1.mr B,λj L S b=>a9 L λst m=>⟨st.keep B j S,y j m S b⟩,λ{i l σ s x P E} j ⟨st,m⟩ gx k=>G j st m gx λv h' t L I rv=>iY L λo e d1 M=>?_,λ{i l σ s P E} j ⟨st,m⟩ sp k=>z j st m sp λh' t Z=>k h' t (N4 Z)⟩;have N:=st.mr B;have C:∀b∈[it],∃o,s.heap.get? b=Y o/\iz o:=λb q=>(N b q).2.2;refine k v h' t λP2 E2 hh=>OE (s:={s with heap:=h',toks:=t}) e d1 M pl (hh h' (DM I) ⟨⟨st.1,st.2.1,o,e,d1,M⟩,p m (N it (.head _)).2.2 (DM I)⟩ (rv.go (Go.fp C (DM I))))
def iP(pv:VI->Prop)(a:VI)(o:Obj)(vs:List VD)(xs:List O)(σ:Sg)(h:WA):Prop:=gM o/\¬(σ.V pv).T a/\h.get? a=Y o/\bg (σ.V pv) h vs xs
theorem iP.keep(b:R c f l σ s)(x:iP f.pv a o vs xs σ s.heap)(S:aQ f.P f.pv σ s.heap aje h'):iP f.pv a o vs xs aje h' :=a9 (ahv b x.2.2.1 x.1 x.2.1 S) λh e=>⟨x.1,h,e,x.2.2.2.step S b.own⟩
theorem iP.fp{a:VI}{o:Obj}{vs:List VD}{xs:List O}{σ:Sg}{h h':WA}{fp:List VI}{pv:VI->Prop}(x:iP pv a o vs xs σ h)(e:∀b∈fp,∃o,h.get? b=Y o/\iz o)(k:∀b o,b∉fp->h.get? b=Y o->h'.get? b=Y o):iP pv a o vs xs σ h':=by
 refine hX x λn t g r=>?_;refine⟨n,t,k a o (λq=>?_) g,r.go (Go.fp e k)⟩;refine aU (e a q) λm e' i=>?_;rw[e']at g;have j:=UB g;clear g;subst j;exact i.I8 (.inl n)
theorem iP.QT{pv b:VI->Prop}(x:iP pv a o vs xs σ h)(g:Go (σ.V pv) h (aje.V b) h'):iP b a o vs xs aje h' :=hX x λn t e r=>a9 (g.same t e n) λi e'=>⟨n,i,e',r.go g⟩
theorem zj{D:Nat->Array VD}{Src:(VI->Prop)->Sg->WA->Prop}(p:T ≠ "traceback")(sm:∀{pv j σ aje h h'},Src pv σ h->Go (σ.V pv) h (aje.V j) h'->Src j aje h'): D9 λpv i σ h=>iL c it T (D i) σ h/\Src pv σ h:=λ{pv j i σ aje h h'} ⟨⟨a,b,o,e,d1,m⟩,w⟩ g k =>
 let ⟨x,y⟩:=k it o e ⟨⟨_,m⟩,T,d1,p⟩ a;⟨⟨x,b,o,y,d1,m⟩,sm w g⟩
theorem P6{it:VI}{h:WA}(a:∃o,h.get? it=Y o/\iz o):∀b∈[it],∃o,h.get? b=Y o/\iz o:=λb q=>by rw[akR.mp q];exact a
theorem y5(a:R c f l σ s):iL c s.heap.objs.size T D σ (s.heap.push { cls:=.type T,data:=.fields D}) :=⟨a.g.qd (VJ _),a.g.mV (VJ _),_,WQ _ rfl,rfl,rfl⟩
theorem uh{h:WA}:∀b∈[h.objs.size],h.get? b=Sa:=λb q=>by rw[akR.mp q];exact B6 (VJ _)
theorem Kw{xs:List O}(hq:c.quiet=W):qI c f tg (.tup xs) σ (λi x _=>xs[i]?=Y x) (λi _=>xs[i]?=Sa):=λ{l v s P E} m r h=>by
 refine r.tupK λa vs n C g r=>?_;refine wpAny_pyIter_tuple (items:=vs.toArray) ⟨_,g,rfl,_,rfl⟩ ?_;refine h _ _ (λpv i σ h=>iL c _ "tuple_iterator" #[.ref a,.int i 0] σ h/\iP pv a { cls:=.type "tuple",data:=.seq vs.toArray n} vs xs σ h) _ s.toks (λf'=>xW (f:=f') (T:="tuple_iterator") (D:=λi=>#[.ref a,.int i 0]) (Src:=iP f'.pv a { cls:=.type "tuple",data:=.seq vs.toArray n} vs xs) (by decide) (by decide) (λm x S _=>x.keep m S) (λx B k=>x.fp (P6 B) k) ?_ ?_) (zj (T:="tuple_iterator") (D:=λi=>#[.ref a,.int i 0]) (Src:=λpv=>iP pv a { cls:=.type "tuple",data:=.seq vs.toArray n} vs xs) (by decide) λx g=>iP.QT x g) (λ_ st h=>wpAny_pyIter_tupleiter st.1.2.2 h) uh (gu _ _)
  ⟨y5 m,sU rfl,C,gu _ _ _ _ g,r.go (Go.stays (gu _ _))⟩
 .intro i l σ s x P E m b j z k;refine jO b λ_ _ o e d1 p=>?_;refine hX j λ_ t g r=>?_;refine aU (r.get z) λv A rv=>?_;exact wpAny_pyNext_tuple_item (i:=i) ⟨o,e,d1,p⟩ ⟨_,g,rfl,_,rfl⟩ (by simpa using A) λh' hit G=>k v h' s.toks hit G rv
 .intro i l σ s P E m b j w k;refine jO b λ_ _ o e d1 p=>?_;refine hX j λ_ t g r=>?_;refine wpAny_pyNext_tuple_end (i:=i) (m.g.hand hq) ⟨o,e,d1,p⟩ ⟨_,g,rfl,_,rfl⟩ (by
   rw[aat]at w;simp;rw[r.length];exact w) λh' y=>k h' s.toks y
theorem Ku{xs:List O}(hq:c.quiet=W):qI c f tg (.lst xs) σ (λi x _=>xs[i]?=Y x) (λi _=>xs[i]?=Sa):=λ{l v s P E} m r h=>by
 refine r.lstK λa vs n C g r=>?_;refine ao2 (items:=vs.toArray) ⟨_,g,rfl,_,rfl⟩ ?_;refine h _ _ (λpv i σ h=>iL c _ "list_iterator" #[.ref a,.int i 0] σ h/\iP pv a { cls:=.type "list",data:=.seq vs.toArray n} vs xs σ h) _ s.toks (λf'=>xW (f:=f') (T:="list_iterator") (D:=λi=>#[.ref a,.int i 0]) (Src:=iP f'.pv a { cls:=.type "list",data:=.seq vs.toArray n} vs xs) (by decide) (by decide) (λm x S _=>x.keep m S) (λx B k=>x.fp (P6 B) k) ?_ ?_) (zj (T:="list_iterator") (D:=λi=>#[.ref a,.int i 0]) (Src:=λpv=>iP pv a { cls:=.type "list",data:=.seq vs.toArray n} vs xs) (by decide) λx g=>iP.QT x g) (λ_ st h=>an3 st.1.2.2 h) uh (gu _ _)
  ⟨y5 m,sU rfl,C,gu _ _ _ _ g,r.go (Go.stays (gu _ _))⟩
 .intro i l σ s x P E m b j z k;refine jO b λ_ _ o e d1 p=>?_;refine hX j λ_ t g r=>?_;refine aU (r.get z) λv A rv=>?_;exact anS (i:=i) ⟨o,e,d1,p⟩ ⟨_,g,rfl,_,rfl⟩ (by simpa using A) λh' hit G=>k v h' s.toks hit G rv
 .intro i l σ s P E m b j w k;refine jO b λ_ _ o e d1 p=>?_;refine hX j λ_ t g r=>?_;refine an4 (i:=i) (m.g.hand hq) ⟨o,e,d1,p⟩ ⟨_,g,rfl,_,rfl⟩ (by
   rw[aat]at w;simp;rw[r.length];exact w) λh' y=>k h' s.toks y
theorem Kv{k:Nat}{xs:List O}(hq:c.quiet=W)(j:σ.H[k]?=Y (.lst xs)):qI c f tg (.ref k) σ (λi x H=>∃xs,H[k]?=Y (.lst xs)/\xs[i]?=Y x) (λi H=>∃xs,H[k]?=Y (.lst xs)/\xs[i]?=Sa):=λ{l v s P E} b r h=>by
 have lt:k < σ.H.length:=by
  rcases aos k σ.H.length with z|z
  .exact z
  .rw[WN z]at j;exact bN j
 refine r.i5 λ_=>?_;refine dH (b.g.objs k _ j) λ_ vs n g r=>?_;generalize ha:σ.μ k=a at g;show wpAny _ _ (an2 (.ref (σ.μ k))) _ _ _;rw[ha];refine ao2 (items:=vs.toArray) ⟨_,g,rfl,_,rfl⟩ ?_;refine h _ _ (λ_ i σ h=>iL c _ "list_iterator" #[.ref a,.int i 0] σ h/\k < σ.H.length/\σ.μ k=a) _ s.toks (λf'=>xW (f:=f') (T:="list_iterator") (D:=λi=>#[.ref a,.int i 0]) (Src:=λaje _=>k < aje.H.length/\aje.μ k=a) (by decide) (by decide) (λb x S _=>⟨VT x.1 S.n,(S.mu k x.1).trans x.2⟩) (λx _ _=>x) ?_ ?_) (zj (D:=λi=>#[.ref a,.int i 0]) (Src:=λ_ σ _=>k < σ.H.length/\σ.μ k=a) (by decide) λx g=>⟨VT x.1 g.n,(g.mu k x.1).trans x.2⟩) (λ_ st h=>an3 st.1.2.2 h) uh (gu _ _)
  ⟨y5 b,lt,ha⟩
 .intro i l σ s x P E b m p w A;refine jO m λ_ _ o e d1 y=>?_;refine a9 p λ_ B=>?_;refine aU w λxs j I=>?_;refine dH (b.g.objs k _ j) λ_ vs n g r=>?_;rw[B]at g;refine aU (r.get I) λv L rv=>?_;exact anS (i:=i) (items:=vs.toArray) ⟨o,e,d1,y⟩ ⟨_,g,rfl,_,rfl⟩ (by simpa using L) λh' hit M=>A v h' s.toks hit M rv
 .intro i l σ s P E b m p w A;refine jO m λ_ _ o e d1 y=>?_;refine a9 p λ_ B=>?_;refine aU w λxs j C=>?_;refine dH (b.g.objs k _ j) λ_ vs n g r=>?_;rw[B]at g;refine an4 (i:=i) (items:=vs.toArray) (b.g.hand hq) ⟨o,e,d1,y⟩ ⟨_,g,rfl,_,rfl⟩ (by
   rw[aat]at C;simp;rw[r.length];exact C) λh' G=>A h' s.toks G
theorem V2{x:Str}(hq:c.quiet=W)(A:x.cps.all (· < 128)=W):qI c f tg (.str x) σ (λi y _=>∃m,x.cps[i]?=Y m/\y = .str ⟨#[m]⟩) (λi _=>x.cps[i]?=Sa):=λ{l v s P E} j r h=>by
 refine r.i7 λt=>?_;refine wpAny_pyIter_ascii A ?_;refine h _ _ (λ_ i σ h=>iL c _ "str_ascii_iterator" #[.str x t,.int i 0] σ h/\True) _ s.toks (λf'=>xW (f:=f') (T:="str_ascii_iterator") (D:=λi=>#[.str x t,.int i 0]) (Src:=λ_ _=>True) (by decide) (by decide) (λ_ _ _ _=>trivial) (λ_ _ _=>trivial) ?_ ?_) (zj (D:=λi=>#[.str x t,.int i 0]) (Src:=λ_ _ _=>True) (by decide) λ_ _=>trivial) (λ_ st h=>wpAny_pyIter_striter_ascii st.1.2.2 h) uh (gu _ _) ⟨y5 j,trivial⟩
 .intro i l σ s y P E j a _ w k;refine jO a λ_ _ o e d1 p=>?_;refine aU w λm B b=>?_;subst b;exact wpAny_pyNext_ascii_item (i:=i) ⟨o,e,d1,p⟩ B λh' hit C=>k _ h' (s.toks+1) hit C (.str _ _)
 .intro i l σ s P E j a _ G k;refine jO a λ_ _ o e d1 p=>?_;exact wpAny_pyNext_ascii_end (i:=i) (j.g.hand hq) ⟨o,e,d1,p⟩ G λh' z=>k h' s.toks z
inductive gZ (c:GC) (a:VI):List (AK×O)->Prop
 |ints {is:List Int}{vs:List VD}{xs:List O}{ep:Nat}:c.base.DictAt (api c.prog c.w) a (is.zip vs) ep->iO c vs xs->is.length=vs.length->(a == aic)=UA->gZ c a ((is.map .int).zip xs)
 |strs {is:List Str}{vs:List VD}{xs:List O}{ep:Nat}:c.base.DictAt (aoj c.prog c.w) a (is.zip vs) ep->iO c vs xs->is.length=vs.length->(a == aic)=UA->gZ c a ((is.map .str).zip xs)
theorem DictAt.stays{P:akH}{w:afJ}{K:Type} [DecidableEq K] {b:KeyKind P w K}{h h':WA}{a:VI}{e:List (K×VD)}{ep:Nat}(x:h.DictAt b a e ep) (k:h.StaysIn h'):h'.DictAt b a e ep :=oQ x λo es i r=>⟨o,es,k _ _ i,r⟩
theorem aej(h:aqK k v=W):∃t,v = .int k t:=by
 cases v<;>first|(cases h;done)|skip
 rename_i i t
 have:(i == k)=W:=h;rw[akP.mp this];exact⟨t,rfl⟩
theorem Qk{K:Type} [DecidableEq K] {z:KeyKind c.prog c.w K}{a:VI}{b:List (K×VD)}{A:Nat}{g:K->O}(hq:c.quiet=W) (L:(a == aic)=UA) (D:c.base.DictAt z a b A) (M:∀k v V h,z.is k v=W->Rel V h v (g k)): qI c f tg (.gl a) σ (λi x _=>∃p,b[i]?=Y p/\x=g p.1) (λi _=>b[i]?=Sa):=λ{l v s P E} j r h=>by
 refine r.yy ?_;refine wpAny_pyIter_dict L (DictAt.stays D j.g.stays) ?_;refine h _ _ (λ_ i σ h=>iL c _ "dict_keyiterator" #[.ref a,.int i 0,.int b.length 0,.int A 0] σ h/\True) _ s.toks (λf'=>xW (f:=f') (T:="dict_keyiterator") (D:=λi=>#[.ref a,.int i 0,.int b.length 0,.int A 0]) (Src:=λ_ _=>True) (by decide) (by decide) (λ_ _ _ _=>trivial) (λ_ _ _=>trivial) ?_ ?_) (zj (D:=λi=>#[.ref a,.int i 0,.int b.length 0,.int A 0]) (Src:=λ_ _ _=>True) (by decide) λ_ _=>trivial) (λ_ st h=>wpAny_pyIter_keyiter st.1.2.2 h) uh (gu _ _) ⟨y5 j,trivial⟩
 .intro i l σ s y P E j m _ G C;refine jO m λ_ _ o e d1 B=>?_;obtain⟨⟨k,w⟩,I,rfl⟩:=G;exact wpAny_pyNext_dict_item (i:=i) ⟨o,e,d1,B⟩ (DictAt.stays D j.g.stays) I λS h' N hit Z=>C _ h' s.toks hit Z (M _ _ _ _ N)
 .intro i l σ s P E j m _ sp C;refine jO m λ_ _ o e d1 B=>?_;exact wpAny_pyNext_dict_end (i:=i) (j.g.hand hq) ⟨o,e,d1,B⟩ (DictAt.stays D j.g.stays) sp λh' H=>C h' s.toks H
theorem VA{x:List (AK×O)}(hq:c.quiet=W)(D:gZ c a x):∃m w,qI c f tg (.gl a) σ m w/\(∀i H p,x[i]?=Y p->m i p.1.av H)/\(∀i H,x[i]?=Sa->w i H):=by
 rcases D with @⟨ks,vs,xs,A,D,r,e,z⟩| @⟨ks,vs,xs,A,D,r,e,z⟩
 .refine⟨_,_,Qk (g:=λk=>.int k) hq z D λk v V h q=>by refine VF (aej q) λt b=>?_;subst b;exact .int _ _,λi H p j=>?_,λi H j=>?_⟩
  .refine a9 (akA.mp j) λh1 h2=>?_;rw[aeQ]at h1;refine aU (alo.mp h1) λk y e1=>?_;have lt:i < vs.length:=by rw[←e];exact(WC.mp y).1
   exact⟨(k,vs[i]),akA.mpr ⟨y,alR lt⟩,by rw[←e1];rfl⟩
  .rw[aat,apT]at j ⊢;rw[VO]at j;rw[r.length]at *
   omega
 .refine⟨_,_,Qk (g:=λk=>.str k) hq z D λk v V h q=>by refine VF (amG (show akj k v=W from q)) λt b=>?_;subst b;exact .str _ _,λi H p j=>?_,λi H j=>?_⟩
  .refine a9 (akA.mp j) λh1 h2=>?_;rw[aeQ]at h1;refine aU (alo.mp h1) λk y e1=>?_;have lt:i < vs.length:=by rw[←e];exact(WC.mp y).1
   exact⟨(k,vs[i]),akA.mpr ⟨y,alR lt⟩,by rw[←e1];rfl⟩
  .rw[aat,apT]at j ⊢;rw[VO]at j;rw[r.length]at *
   omega
end
noncomputable def noStar:List VC->Bool
 | []=>W
 | .Starred .. :: _=>UA
 |_::r=>noStar r
theorem Rd{e:VC}{r:List VC}(h:noStar (e::r)=W):noStar r=W/\∀env,alk (e::r) env=(UA,eval e env)::alk r env:=by
 cases e<;>first|exact⟨h,λ_=>rfl⟩|exact bD h
theorem AS(pos:Pos)(env:Env){a:List VC}:noStar a=W->amr pos (alk a env)=a.map λe=>(UA,eval e env):=by
 induction a with
 |nil=>exactλ_=>rfl
 |cons e r b =>
  intro h;have b:=b (Rd h).1;unfold amr at b ⊢;rw[(Rd h).2,WH,WH,b];rfl
theorem Lh(env:Env):∀(a:List VC),(a.map λe=>(UA,eval e env)).any (·.1)=UA:=by
 intro a;induction a with
 |nil =>
  exact rfl
 |cons _ r b =>
  exact by rw[WH,akU,b];rfl
theorem all_plain(env:Env):∀(a:List VC),(a.map λe=>(UA,eval e env)).all (!·.1)=W:=by
 intro a;induction a with
 |nil =>
  exact rfl
 |cons _ r b =>
  exact by rw[WH,amX,b];rfl
noncomputable def qf:VC->Bool
 | .Call (.Name ..) [] [] _=>UA
 |_=>W
theorem EE(h:qf o=W):attributeBase o attr env t=t:=by
 revert h;cases o<;>first|exactλ_=>rfl|skip
 rename_i b a k p
 cases b<;>first|exactλ_=>rfl|skip
 cases a<;>first|exactλ_=>rfl|skip
 cases k<;>first|exactλ_=>rfl|exactλh=>nomatch h
section
variable{c:GC}{f:Fc}{l:Lc}{σ aje:Sg}{s s':VE}{Q:QV}{X:QX}
def i8(c:GC)(f:Fc):List VC->Lc->Sg->(List O->Sg->Prop)->QX->Prop
 | [],l,σ,Q,X=>Q [] σ
 |e::r,l,σ,Q,X=>bG c f e l σ (λx a=>i8 c f r l a (λxs b=>Q (x::xs) b) X) X
theorem Ei:∀{a:List VC}{σ:Sg}{Q:List O->Sg->Prop},i8 c f a l σ Q X->qP c f (amI (a.map λe=>(UA,eval e f.env))) l σ Q X:=by
 intro a;induction a with
 |nil =>
  exact@λ_ _ h=>ZR h
 |cons e r j =>
  exact@λ_ _ h=>ZQ (jW.mono h (λx i b=>j b) λ_ _ z=>z)
def dX(c:GC)(f:Fc)(fv:VD)(xs:List O)(l:Lc)(σ:Sg)(Q:QV)(X:QX):Prop :=∀vs s,R c f l σ s->bg (σ.V f.pv) s.heap vs xs->wpAny (VL c.prog c.w) f.A (call fv vs) (iN c f l σ s Q) (dI c f σ s λl' x aje=>l'=l/\X x aje) s
def dW(c:GC)(fv:VD):Prop:=∀h,c.K.In h->∃k,(k=Keeper.frame∨k=Keeper.machine∨k=Keeper.boundFrame)/\amg (VL c.prog c.w) h (keeperOf fv) k
theorem dW.bi(id:String):dW c (.builtin id):=λh _=>⟨.machine,.inr (.inl rfl),arb⟩
theorem dW.ty(id:String):dW c (.type id):=λh _=>⟨.machine,.inr (.inl rfl),arb⟩
theorem dW.K(h:aow c.K fv=W):dW c fv:=λh' X=>keeps_K h h' X
theorem MT(z:dW c fv)(y:noStar args=W)(h:i8 c f args l σ (λxs a=>dX c f fv (fs++xs) l a Q X) X)(j:R c f l σ s)(rf:bg (σ.V f.pv) s.heap first fs): wpAny (VL c.prog c.w) f.A (callWith pos fv first (amr pos (alk args f.env)) []) (iN c f l σ s Q) (dI c f σ s λl' x aje=>l'=l/\X x aje) s:=by
 rw[AS pos f.env y];refine apj (P:=λh=>c.K.In h) (by rw[Lh];rfl) z ?_;induction args using cL with
 |nil=>exact evalArgs_nil3 ⟨ia j.g,h (first++[]) s j (by rw[af1,af1];exact rf)⟩
 |cons e r =>
  refine evalArgs_plain (wj (Ei (Q:=λxs a=>dX c f fv (fs++xs) l a Q X) h s j) (λvs s₁ xs a r i b m=>⟨ia i.g,?_⟩) λ_ _ p=>p);exact WD (m (first++vs) s₁ i ((rf.step b j.own).append r)) (λ_ _ p=>p.after b) λ_ _ p=>p.after b
noncomputable def O.fv:O->Option VD | .gl a=>Y (.ref a)| .bi i=>Y (.builtin i)| .ty n=>Y (.type n)|_=>Sa
theorem Rel.fv(r:Rel V h v x)(e:x.fv=Y w):v=w:=by cases r<;>first|(cases e;rfl)|exact bN e
theorem Zm(z:noStar args=W)(h:bG c f (.Name x np) l σ (λy a=>∃fv,y.fv=Y fv/\dW c fv/\i8 c f args l a (λxs i=>dX c f fv xs l i Q X) X) X):bG c f (.Call (.Name x np) args [] pos) l σ Q X:=λs w =>
 ama (cH (h s w) (λv s₁ y a r j b ⟨fv,e,A,m⟩=>by
  rw[r.fv e];exact WD (MT (fs:=[]) A z m j .nil) (λ_ _ p=>p.after b) λ_ _ p=>p.after b) λ_ _ p=>p)
def tC(c:GC)(f:Fc)(name:Str)(x:O)(l:Lc)(σ:Sg)(Q:VD->List O->Prop):Prop :=∀{v s} {P:VD×List VD->VE->Prop}{E:VD->VE->Prop}{a:Sem Bool},R c f l σ s->Rel (σ.V f.pv) s.heap v x->(∀fv fs xs t,Q fv xs->bg (σ.V f.pv) s.heap fs xs->P (fv,fs) {s with toks:=t})->wpAny (VL c.prog c.w) f.A (aqh v name a) P E s
theorem Ek(B:noStar args=W)(hb:qf o=W)(D:(apos.endLine == pos.line)=W)(A:args.length < 30)(h:bG c f o l σ (λx a=>tC c f name x l a λfv fs=>dW c fv/\i8 c f args l a (λxs m=>dX c f fv (fs++xs) l m Q X) X) X):bG c f (.Call (.Attribute o name apos) args [] pos) l σ Q X:=λs C=>by
 show wpAny _ _ (eval (.Call (.Attribute o name apos) args [] pos) f.env) _ _ _;rw[arm_eval_Call,EE hb];refine wpAny_bind (cH (h s C) (λv s₁ x a r i e w=>wpAny_bind (akr ?_)) λ_ _ p=>p);have b:an5 (args.length+([]:List aqb).length) (amr pos (alk args f.env)) (backToKw pos (apk [] f.env))=W:=by
  rw[AS pos f.env B];unfold an5;rw[all_plain];rw[show backToKw pos (apk [] f.env)=[] from rfl]
  simpa using A
 have j:amY W o f.env apos pos=pure pos:=by unfold amY;simp[D]
 unfold methodCall;rw[b];refine wpAny_bind (ab9 (w i r λfv fs xs t G rf=>a9 G λE y=>?_));refine wpAny_bind (anT j ?_);have z:=MT (fs:=xs) (first:=fs) (pos:=pos) E B y (i.tok t) rf;exact WD z (λ_ _ p=>qO.after e p) λ_ _ p=>gz.after e p
theorem XJ(h:jV c f.n fv xs σ Q X):dX c f fv xs l σ Q X:=λvs s j r=>by
 refine anc (ak2 (h f.pv f.fr f.A s vs j.g r) λres s' p=>?_);have D:∀{aje:Sg},Rg c f.n f.pv f.fr f.A aje s'->aQ (λ_=>False) f.pv σ s.heap aje s'.heap->R c f l aje s':=λ{aje} G S=>j.move G (S.go λ_ z=>z.elim) λb hb o e=>by
  refine hY (j.g.dm b (j.own b hb)) λun _ Z e2 n=>?_;rw[e]at e2;have i:=UB e2;clear e2;subst i;refine fw (S.keep b o e (λz=>z) un) λ_ k _=>?_;refine aU (k (.inl n)) λH e' w=>?_;exact⟨H,e',(w.1 n).1⟩
 rcases res with e|(_|_|_|v)
 .refine uY p λx aje T G S q=>?_;refine⟨x,l,aje,T.go Go.refl λa I vs _ C B N=>?_,D G S,S.weak λ_ z=>z.elim,rfl,q⟩
  rename_i E
  subst E;refine nJ T.lK λL M e1 _ y _ m=>?_;rw[C]at e1;have i:=UB e1;clear e1;subst i;rw[B]at y;have i:=amv y;clear y;subst i;exact⟨I,vs,C,rfl,rfl,B,m.imp_right λz=>z.elim .inl .inl⟩
 .exact p.elim
 .exact p.elim
 .exact p.elim
 .refine uY p λx aje r G S q=>?_;exact⟨x,aje,r,D G S,S.weak λ_ z=>z.elim,q⟩
end
noncomputable def Sg.free(g:Sg)(k:Nat):Sg:=⟨g.H.set k .dead,g.μ,λa=>if (g.σ a).map (·.1)=Y k then Sa else g.σ a⟩
section
variable{c:GC}{n:Nat}{pv:VI->Prop}{fr:List Env}{A A':af2}{f:Fc}{l:Lc}{σ aje:Sg}{s s':VE}{Q:QV}{X:QX}
theorem B4(h:σ.σ a=Sa):(σ.free k).σ a=Sa:=by
 show(if (σ.σ a).map (·.1)=Y k then Sa else σ.σ a)=Sa;rw[h];simp
theorem adj(h:σ.σ a=Y (k,b)):(σ.free k).σ a=Sa:=by
 show(if (σ.σ a).map (·.1)=Y k then Sa else σ.σ a)=Sa;rw[h];simp
theorem adi(h:σ.σ a=Y (i,b))(hi:i≠k):(σ.free k).σ a=Y (i,b):=by
 show(if (σ.σ a).map (·.1)=Y k then Sa else σ.σ a)=_;rw[h,VP (by simpa using hi)]
theorem Go.free:Go (σ.V pv) h ((σ.free k).V pv) h :=⟨by show _<=(σ.H.set k .dead).length;rw[akT];exact VJ _,λ_ _=>rfl,λb o _ t q=>t (q.elim (λz=>.inl λw=>z (B4 w)) .inr),λb o e _ _=>⟨o,e,.rfl⟩⟩
theorem Rg.free(G:Rg c n pv fr A σ s)(k:Nat):Rg c n pv fr A (σ.free k) s where
 stays:=G.stays
 frames:=G.frames
 stack:=G.stack
 hand:=G.hand
 depth:=G.depth
 units:=G.units
 fy:=G.fy
 dm:=λa q=>a9 (G.dm a q) λx y=>⟨B4 x,y⟩
 objs:=λi m e=>by
  have e:(σ.H.set k .dead)[i]?=Y m:=e;by_cases hi:k=i
  .subst hi;by_cases lt:k < σ.H.length
   .rw[alj lt]at e;have w:=UB e;clear e;subst w;trivial
   .rw[WN (by rw[akT];lia)]at e;exact bN e
  .rw[acF hi]at e;have x:=G.objs i m e;have h:∀a b,σ.σ a=Y (i,b)->(σ.free k).σ a=Y (i,b):=λa b z=>adi z (acb hi);cases m with
   |lst xs=>refine dH x λe vs n g r=>?_;exact⟨h _ _ e,vs,n,g,r.go Go.free⟩
   |bu fs=>refine wC x λe es n g r q=>?_;exact⟨h _ _ e,es,n,g,r.go Go.free,q⟩
   |inst C fs=>refine nI x λe d es n e2 g p r=>?_;exact⟨h _ _ e,d,es,n,h _ _ e2,g,p,r.go Go.free⟩
   |exc C fs=>refine dH x λe t j g r=>?_;exact⟨h _ _ e,t,j,g,r.move Go.free (λb q z=>h b _ z) λ_ _ _ _ z _=>z⟩
   |dead=>trivial
 own:=λa q=>G.own a λz=>q (B4 z)
 gens:=G.gens
 os:=G.os
theorem aQ.free{P:VI->Prop}(k:Nat):aQ P pv σ h (σ.free k) h :=⟨by show _<=(σ.H.set k .dead).length;rw[akT];exact VJ _,λ_ _=>rfl,λb o e _ q=>⟨B4 q,.same e⟩⟩
theorem yu(G:Rg c n pv fr A σ s)(h:σ.σ a=Y (k,b)):¬((σ.free k).V pv).T a:=λq=>q.elim (λz=>z (adj h)) λz=>by
 have:=(G.dm a z).1;rw[h]at this;exact gJ this
theorem adh(G:Rg c n pv fr A σ s)(b:σ.H[k]?=Y (.inst C fs)):Rel ((σ.free k).V pv) s.heap (.ref (σ.μ k)) (.obj C fs):=by
 refine nI (G.objs k _ b) λe d es n e2 g a r=>?_;exact .obj (yu G e) (yu G e2) g a (r.go Go.free)
theorem adg(G:Rg c n pv fr A σ s)(a:σ.H[k]?=Y (.lst xs)):Rel ((σ.free k).V pv) s.heap (.ref (σ.μ k)) (.lst xs):=by
 refine dH (G.objs k _ a) λe vs n g r=>?_;exact .lst (yu G e) g (r.go Go.free)
theorem R.free(a:R c f l σ s)(k:Nat):R c f l (σ.free k) s:=a.move (a.g.free k) Go.free λb _ o e=>⟨o,e,rfl⟩
noncomputable def q7:MO->Option O
 | .lst xs=>Y (.lst xs)
 | .inst C fs=>Y (.obj C fs)
 |_=>Sa
theorem Fz(G:Rg c n pv fr A σ s)(b:σ.H[k]?=Y m)(e:q7 m=Y y):Rel ((σ.free k).V pv) s.heap (.ref (σ.μ k)) y:=by
 cases m<;>first|(cases e;done)|skip
 .have a:=UB e;clear e;subst a;exact adg G b
 .have a:=UB e;clear e;subst a;exact adh G b
theorem qO.freeze(h:iN c f l σ s (λy aje=>∃k m z,y = .ref k/\aje.H[k]?=Y m/\q7 m=Y z/\∀b:Sg,b.H=aje.H.set k .dead->Q z b) v s'):iN c f l σ s Q v s':=by
 obtain⟨x,aje,r,a,S,k,m,z,rfl,i,e,q⟩:=h;refine r.i5 λ_=>?_;exact⟨z,aje.free k,Fz a.g i e,a.free k,S.trans (aQ.free k),q _ rfl⟩
theorem jW.freeze(h:jW c f t l σ (λy aje=>∃k m z,y = .ref k/\aje.H[k]?=Y m/\q7 m=Y z/\∀a:Sg,a.H=aje.H.set k .dead->Q z a) X):jW c f t l σ Q X:=λs b => WD (h s b) (λ_ _ p=>p.freeze) λ_ _ p=>p
theorem Rg.wM(G:Rg c n pv fr A σ s)(b:A'.frames=A.frames)(hh:c.quiet=W->A'.handled=Sa)(a:A'.depth+3 * n'<=950)(e:A'.units+30 * n'<=9000):Rg c n' pv fr A' σ s :=⟨G.stays,G.frames,b.trans G.stack,hh,a,e,G.fy,G.dm,G.objs,G.own,G.gens,G.os⟩
theorem w4(C:VI)(rest:List VD)(a:List (Str×VD)):(A.under (.builtin "type.__call__" ⟨.ref C::rest,a⟩)).frames=A.frames:=by
 show pushEnvs (Code.envs (.builtin "type.__call__" ⟨.ref C::rest,a⟩)) A.frames=_;rw[show Code.envs (.builtin "type.__call__" ⟨.ref C::rest,a⟩)=[] from rfl];cases A.frames<;>rfl
theorem TZ(C:VI)(rest:List VD)(a:List (Str×VD)):(A.under (.builtin "type.__call__" ⟨.ref C::rest,a⟩)).depth<=A.depth+3:=by
 show A.depth+aqL (.builtin "type.__call__" ⟨.ref C::rest,a⟩)<=_;exact ak5 (show aqL (.builtin "type.__call__" ⟨.ref C::rest,a⟩)<=3 from WG (by rfl)) _
theorem T4(C:VI)(rest:List VD)(a:List (Str×VD)):(A.under (.builtin "type.__call__" ⟨.ref C::rest,a⟩)).units<=A.units+30:=by
 show A.units+aqM (.builtin "type.__call__" ⟨.ref C::rest,a⟩)<=_;exact ak5 (show aqM (.builtin "type.__call__" ⟨.ref C::rest,a⟩)<=30 from WG (by rfl)) _
theorem call_cls(hm:makesIn c.K C=W)(hi:aga c.K (.ref C) "__init__" = Y (Y (.ref fI)))(hf:amw c.K (.ref fI)=Y (.type "function"))(h:∀L:Sg,L.H=σ.H++[.inst C []]->jV c (n+1) (.ref fI) (.ref σ.H.length::xs) L (λr D=>r = .none/\Q (.ref σ.H.length) D) X):jV c (n+2) (.ref C) xs σ Q X:=by
 intro pv fr A s i G r;have B:=ia G;obtain⟨a,g,d,t,os⟩:=s;have k:a.StaysIn ((a.push ah5).push (akK C a.objs.size)):=λb o e=>VX _ (VX _ e);have e1:((a.push ah5).push (akK C a.objs.size)).get? (a.objs.size+1)=Y (akK C a.objs.size):=by heap_get
 have e2:((a.push ah5).push (akK C a.objs.size)).get? a.objs.size=Y (ace [] 0):=VX _ (WQ _ rfl);have I:∀x,(Y a.objs.size:Option VI)=Y x->a.objs.size<=x/\∃o,((a.push ah5).push (akK C a.objs.size)).get? x=Y o:=λx e=>by have zq:=UB e;clear e;subst zq;exact⟨VJ _,_,e2⟩
 have E:(σ.add (a.objs.size+1) (.inst C []) (Y a.objs.size)).μ σ.H.length=a.objs.size+1:=VY rfl;have ok:Ok c.w.params (σ.add (a.objs.size+1) (.inst C []) (Y a.objs.size)) ((σ.add (a.objs.size+1) (.inst C []) (Y a.objs.size)).V pv) ((a.push ah5).push (akK C a.objs.size)) σ.H.length (.inst C []):=by
  refine⟨by rw[E];exact VY rfl,a.objs.size,[],0,?_,by rw[E];exact e1,e2,.nil⟩;show(if a.objs.size=a.objs.size+1 then _ else if Y a.objs.size=Y a.objs.size then _ else _)=_;rw[VP (abv (af5 _)),VY rfl]
 have M:=Rg.add G (h':=(a.push ah5).push (akK C a.objs.size)) k (alm _) ⟨_,e1⟩ I ok;have S1:aQ (λ_=>False) pv σ a (σ.add (a.objs.size+1) (.inst C []) (Y a.objs.size)) ((a.push ah5).push (akK C a.objs.size)):=aQ.add G k (alm _) λx e=>(I x e).1;have go:Go (σ.V pv) a ((σ.add (a.objs.size+1) (.inst C []) (Y a.objs.size)).V pv) ((a.push ah5).push (akK C a.objs.size)):=S1.go λ_ z=>z.elim;have Z:=G.depth;have hun:=G.units;have d1:=TZ (A:=A) C i [];have u1:=T4 (A:=A) C i [];have N:=M.wM (A':=A.under (.builtin "type.__call__" ⟨.ref C::i,[]⟩)) (n':=n+1) (w4 C i []) G.hand (by lia) (by lia);refine make_core (makes_of B hm) (alS B hi) (λj=>bind_fn B j hf) (.inl rfl) (ak2 (h _ rfl pv fr _ _ (.ref (a.objs.size+1)::i) N (.cons Rel.added (r.go go))) λres s' p=>?_);rcases res with e|(_|_|_|v)
 .refine uY p λx aje T y S q=>?_;exact⟨x,aje,T,y.wM (w4 C i []).symm G.hand G.depth G.units,S1.trans S,q⟩
 .exact p.elim
 .exact p.elim
 .exact p.elim
 .refine nJ p λx aje rv y S m q=>?_;subst m;cases rv.none_inv;refine⟨rfl,.ref σ.H.length,aje,?_,y.wM (w4 C i []).symm G.hand G.depth G.units,S1.trans S,q⟩;have lt:σ.H.length < (σ.add (a.objs.size+1) (.inst C []) (Y a.objs.size)).H.length:=by show _ < (σ.H++[_]).length;simp
  have e:=(S.mu σ.H.length lt).trans E;have z:Rel (aje.V pv) s'.heap (.ref ((aje.V pv).μ σ.H.length)) (.ref σ.H.length):=.ref (VT lt S.n)
  rwa [show(aje.V pv).μ σ.H.length=a.objs.size+1 from e]at z
end
section
variable{c:GC}{f:Fc}{l:Lc}{σ aje:Sg}{s s':VE}{Q:QV}{X:QX}
def qM(K:af7)(C:VI)(name:Str)(a:VI):Prop:=aga K (.ref C) name=Y (Y (.ref a))/\amw K (.ref a)=Y (.type "function")
theorem Ky{M:am8}{x C b:VI}{es:List VM}{n:Nat}{fs:List (Str×O)}{name:Str}{a:VI}{V:Vw}{A:af2}{E:VD->VE->Prop}{P:VD×List VD->VE->Prop}{j:Sem Bool}(e:c.K.In s.heap)(e1:s.heap.get? x=Y (akK C b))(e2:s.heap.get? b=Y (ace es n))(ok:jq c.K C)(mk:qM c.K C name a)(r:cD V s.heap es fs)(i:fs.lookup name=Sa)(h:P (.ref a,[.ref x]) s): wpAny (VL c.prog c.w) A (aqh (.ref x) name j) P E s:=method_fn e (I:=⟨e1,rfl,rfl,e2⟩) (od:=Y (ace es n)) (apg (name:="") ok.get).1 (apg (name:="") ok.get).2 mk.1 mk.2 (by show(lookIn name (ace es n)).map _=_;rw[aph,cD.miss name r i];rfl) h
theorem Wj{k:Nat}{C:VI}{fs:List (Str×O)}{name:Str}{a:VI}{Q:VD->List O->Prop}(j:σ.H[k]?=Y (.inst C fs))(ok:jq c.K C)(mk:qM c.K C name a)(m:fs.lookup name=Sa)(h:Q (.ref a) [.ref k]):tC c f name (.ref k) l σ Q:=λ{v s P E x} b r p=>by
 refine r.i5 λlt=>?_;refine nI (b.g.objs k _ j) λe d es n e2 g i r=>?_;exact Ky (M:=VL c.prog c.w) (ia b.g) g i ok mk r m (p _ _ _ s.toks h (.cons (.ref lt) .nil))
theorem Wi{C:VI}{fs:List (Str×O)}{name:Str}{a:VI}{Q:VD->List O->Prop}(ok:jq c.K C)(mk:qM c.K C name a)(i:fs.lookup name=Sa)(h:Q (.ref a) [.obj C fs]):tC c f name (.obj C fs) l σ Q:=λ{v s P E p} e r j=>by
 refine r.Jg λ_ _ _ _ t m g b r=>?_;exact Ky (M:=VL c.prog c.w) (ia e.g) g b ok mk r i (j _ _ _ s.toks h (.cons (.obj t m g b r) .nil))
def vk(σ:Sg):O->String->Prop
 | .str _,T=>T = "str"
 | .lst _,T=>T = "list"
 | .tup _,T=>T = "tuple"
 | .ref k,T=>(∃xs,σ.H[k]?=Y (.lst xs)/\T = "list")∨∃fs,σ.H[k]?=Y (.bu fs)/\T = "dict"
 |_,_=>False
theorem vk.at_(i:R c f l σ s)(r:Rel (σ.V f.pv) s.heap v x)(t:vk σ x T):s.TypeIs v T/\∀a,v = .ref a->∃o,s.heap.get? a=Y o/\o.dict=Sa:=by
 cases r<;>first|exact t.elim|skip
 .subst t;exact⟨amu _ _ _,λ_ e=>nomatch e⟩
 .rcases t with ⟨xs,h,rfl⟩|⟨fs,h,rfl⟩
  .refine dH (i.g.objs _ _ h) λ_ vs n g _=>?_;exact⟨⟨_,g,rfl⟩,λa e=>by have b:=akI e;clear e;subst b;exact⟨_,g,rfl⟩⟩
  .refine dH (i.g.objs _ _ h) λ_ es n g _=>?_;exact⟨⟨_,g,rfl⟩,λa e=>by have b:=akI e;clear e;subst b;exact⟨_,g,rfl⟩⟩
 .rename_i g _;subst t;exact⟨⟨_,g,rfl⟩,λa e=>by have b:=akI e;clear e;subst b;exact⟨_,g,rfl⟩⟩
 .rename_i g _;subst t;exact⟨⟨_,g,rfl⟩,λa e=>by have b:=akI e;clear e;subst b;exact⟨_,g,rfl⟩⟩
theorem Wf{x:O}{T:String}{name:Str}{id:String}{Q:VD->List O->Prop}(t:vk σ x T)(p:PlainAttrs T)(a:Slot T name id)(b:an6 (.builtin id)=pure (.type "method_descriptor"))(h:Q (.builtin id) [x]):tC c f name x l σ Q:=λ{v s P E w} e r m=>by
 refine a9 (t.at_ e r) λi j=>?_;exact ao3 i p a b j (m _ _ _ s.toks h (.cons r .nil))
theorem Kg(j:σ.H[k]?=Y (.lst xs))(w:xs.length<=WI)(h:∀m:Sg,m.H=σ.H.set k (.lst (xs++[y]))->Q .none m):dX c f (.builtin "list.append") [.ref k,y] l σ Q X:=λvs s i r=>by
 refine r.w9 λ_ u a b=>?_;refine a.i5 (P:=λv=>wpAny _ _ (call _ [v,u]) _ _ _) λ_=>?_;refine dH (i.g.objs k _ j) λe us n g r=>?_;refine akY (T:="list") anp ⟨_,g,rfl⟩ PySem.F.entry_list_append (PySem.F.args_list_append_2 _ _) (list_append (σ.μ k) us.toArray n u (by rw[VN,r.length];exact w)) ⟨g,?_⟩;refine a9 (Dj (ys:=xs++[y]) (g:=λx=>x.push u) (ws:=us++[u]) i j e rfl g (by simp) (r.append (.cons b .nil))) λp q=>?_;exact⟨.none,_,.none,p.tok _,q,h _ rfl⟩
theorem bg.last(r:bg V h vs xs)(e:xs.getLast? = Y y):∃v,vs[vs.length - 1]?=Y v/\Rel V h v y:=by
 rw[List.getLast?_eq_getElem?]at e;refine aU (r.get e) λv a rv=>?_;exact⟨v,by rw[r.length];exact a,rv⟩
theorem Vh(i:σ.H[k]?=Y (.lst xs))(z:xs.length<=WI)(w:xs.getLast? = Y y)(h:∀m:Sg,m.H=σ.H.set k (.lst xs.dropLast)->Q y m):dX c f (.builtin "list.pop") [.ref k] l σ Q X:=λvs s b r=>by
 refine r.wy λ_ a=>?_;refine a.i5 (P:=λv=>wpAny _ _ (call _ [v]) _ _ _) λ_=>?_;refine dH (b.g.objs k _ i) λe us n g r=>?_;refine aU (r.last w) λu j A=>?_;refine akY (T:="list") an7 ⟨_,g,rfl⟩ PySem.F.entry_list_pop (PySem.F.args_list_pop_1 _) (MeetsSeq.list_pop_last (σ.μ k) us.toArray n u (by simpa using j) (by rw[VN,r.length];exact z)) ⟨g,?_⟩;obtain⟨p,q⟩:=Dj (ys:=xs.dropLast) (g:=λx=>x.eraseIdxIfInBounds (us.toArray.size - 1)) (ws:=us.dropLast) b i e rfl g (by
  rw[VN];have lt:us.length - 1 < us.length:=(WC.mp j).1;rw[Array.eraseIdxIfInBounds,dif_pos (by simpa using lt)];simp[List.eraseIdx_length_sub_one]) r.dropLast
 refine⟨y,_,?_,p,q,h _ rfl⟩;exact A.step q b.own
theorem IK(a:R c f l σ s)(h:Q (.int n) σ):iN c f l σ s Q (.int n t) {s with toks:=t'}:=dy a (.int _ _) h
theorem Vc(e:xs.length<=2 ^ 62)(h:Q (.int xs.length) σ):dX c f (.builtin "len") [.lst xs] l σ Q X:=λvs s b r=>by
 refine r.wy λ_ a=>?_;refine a.lstK (P:=λv=>wpAny _ _ (call _ [v]) _ _ _) λa us n t g r=>?_;exact call_len_list (items:=us.toArray) ⟨_,g,rfl,_,rfl⟩ (by rw[VN,r.length];lia) (by rw[VN,r.length];exact IK b h)
theorem Vd(i:σ.H[k]?=Y (.lst xs))(j:xs.length<=2 ^ 62)(h:Q (.int xs.length) σ):dX c f (.builtin "len") [.ref k] l σ Q X:=λvs s b r=>by
 refine r.wy λ_ a=>?_;refine a.i5 (P:=λv=>wpAny _ _ (call _ [v]) _ _ _) λ_=>?_;refine dH (b.g.objs k _ i) λe us n g r=>?_;exact call_len_list (items:=us.toArray) ⟨_,g,rfl,_,rfl⟩ (by rw[VN,r.length];lia) (by rw[VN,r.length];exact IK b h)
theorem Ve(e:xs.length<=2 ^ 62)(h:Q (.int xs.length) σ):dX c f (.builtin "len") [.tup xs] l σ Q X:=λvs s b r=>by
 refine r.wy λ_ a=>?_;refine a.tupK (P:=λv=>wpAny _ _ (call _ [v]) _ _ _) λa us n t g r=>?_;exact PySem.P.len_tuple (items:=us.toArray) g (by rw[VN,r.length];lia) (by rw[VN,r.length];exact IK b h)
end
structure Kt (K:af7) (D:VI):Prop where
 get:apv K D "__class__" = W
 dict:akJ K D=W
 cls:aga K (.ref D) "__class__" = Y (Y (.builtin "object.__class__"))
 sp:alC K (.builtin "object.__class__") "__get__" = Y (Y (.builtin "getset_descriptor.__get__"))
 tk:takesIn K (.builtin "object.__class__")=Y W
 mro:mroIn K D (.type "object")=Y W
section
variable{c:GC}{f:Fc}{l:Lc}{σ aje:Sg}{s s':VE}{Q:QV}{X:QX}
inductive tw (σ:Sg):O->VI->Prop
 |obj {C fs}:tw σ (.obj C fs) C
 |ref {k C fs}:σ.H[k]?=Y (.inst C fs)->tw σ (.ref k) C
theorem tw.at_(e:R c f l σ s)(r:Rel (σ.V f.pv) s.heap v x)(i:tw σ x C):∃a d es n,v = .ref a/\InstAt s.heap a (akK C d) C (Y (ace es n)):=by
 cases i with
 |obj=>refine r.Jg λa d es n _ _ g b _=>?_;exact⟨_,_,_,_,rfl,g,rfl,rfl,b⟩
 |ref h=>rw[r.nN.1];refine nI (e.g.objs _ _ h) λ_ d es n _ g b _=>?_;exact⟨_,_,_,_,rfl,g,rfl,rfl,b⟩
theorem Va(i:tw σ x C)(e:isIn c.K (.ref C) D=W)(h:Q (.bool W) σ):dX c f (.builtin "isinstance") [x,.gl D] l σ Q X:=λvs s m r=>by
 refine r.w9 λv _ a b=>?_;refine b.yy (P:=λw=>wpAny _ _ (call _ [v,w]) _ _ _) ?_;refine zy (i.at_ m a) λp d es n j I=>?_;subst j;exact isi_call (ia m.g) (λM=>I.type) e (by intro q;cases q) ⟨_,σ,.bool _,m,.refl,h⟩
theorem U9(i:tw σ x C)(j:Kt c.K C)(e:kin_not c.K C D=W)(h:Q (.bool UA) σ):dX c f (.builtin "isinstance") [x,.gl D] l σ Q X:=λvs s p r=>by
 refine r.w9 λv _ a b=>?_;refine b.yy (P:=λw=>wpAny _ _ (call _ [v,w]) _ _ _) ?_;refine zy (i.at_ p a) λy d es n m I=>?_;subst m;exact kin_callC (ia p.g) I e j.get j.dict j.cls j.sp j.tk j.mro (dy p (.bool _) h)
noncomputable def tyName(σ:Sg):O->Option String
 | .none=>Y "NoneType"
 | .str _=>Y "str"
 | .int _=>Y "int"
 | .lst _=>Y "list"
 | .tup _=>Y "tuple"
 | .ref k=>match σ.H[k]? with|some (.lst _)=>Y "list" |_=>Sa
 |_=>Sa
theorem aiv{x:O}{T:String}{v:VD}(b:R c f l σ s)(r:Rel (σ.V f.pv) s.heap v x):eP (tyName σ x) (λT=>∃H,KitX c.K v (.type T) H/\H s.heap/\v ≠ .builtin "__main__.__loader__#opaque") True:=by
 cases x<;>first|exact trivial|skip
 .rw[r.none_inv];exact⟨_,kitx_none,trivial,λq=>nomatch q⟩
 .refine VF r.int_inv λt e=>?_;rw[e];exact⟨_,kitx_int,trivial,λq=>nomatch q⟩
 .refine VF r.str_inv λt e=>?_;rw[e];exact⟨_,kitx_str,trivial,λq=>nomatch q⟩
 .rename_i k
  rw[r.nN.1];show eP (match σ.H[k]? with|some (.lst _)=>Y "list" |_=>Sa) _ _;cases h:σ.H[k]? with
  |none=>exact trivial
  |some m =>
   cases m<;>first|exact trivial|skip
   refine dH (b.g.objs k _ h) λ_ us n g _=>?_;exact⟨_,kitx_list,⟨_,g,rfl⟩,λq=>nomatch q⟩
 .refine oR r.JV λa vs n e _ g _=>?_;rw[e];exact⟨_,kitx_tuple,⟨_,g,rfl⟩,λq=>nomatch q⟩
 .refine oR r.lst_inv λa vs n e _ g _=>?_;rw[e];exact⟨_,kitx_list,⟨_,g,rfl⟩,λq=>nomatch q⟩
theorem D1{x y:O}{T:String}{w:VD}{b:Bool}(m:tyName σ x=Y T)(hw:y.fv=Y w)(e:kitOne c.K (.type T) w=Y b)(h:Q (.bool b) σ):dX c f (.builtin "isinstance") [x,y] l σ Q X:=λvs s i r=>by
 refine mG r.xb λv u j a b=>?_;rw[j,b.fv hw];obtain⟨H,p,z,A⟩:=eT (aiv (T:=T) i a) m;exact kia_one p (ia i.g) z e A λtk=>dy i (.bool _) h
theorem N3(i:R c f l σ s)(D:Rel (σ.V f.pv) s.heap a (.ref k))(j:σ.H[k]?=Y (.lst xs))(E:xs.length+ys.length<=60000)(B:s.heap.get? b=Y {cls:=.type "list",data:=.seq us.toArray m})(y:bg (σ.V f.pv) s.heap us ys)(h:∀z:Sg,z.H=σ.H.set k (.lst (xs++ys))->Q .none z):wpAny (VL c.prog c.w) f.A (call (.builtin "list.extend") [a,.ref b]) (iN c f l σ s Q) (dI c f σ s λl' x aje=>l'=l/\X x aje) s:=by
 refine D.i5 λ_=>?_;refine dH (i.g.objs k _ j) λe vs n g r=>?_;have G:=r.length;have I:=y.length;have sl:WI=16777216:=by decide
 refine akY (T:="list") anq ⟨_,g,rfl⟩ PySem.F.entry_list_extend (PySem.F.args_list_extend_2 _ _)
  (AutoSeq1.list_extend_list_list_0 (σ.μ k) vs.toArray n b us.toArray m ?_ (by rw[VN,sl];lia) (by rw[VN,VN,sl];lia)) ⟨g,B,?_⟩
 .intro q;rw[VG]at q;have C:decide (vs.toArray.size+us.toArray.size > WI)=W:=q.2;rw[akm,VN,VN,sl]at C;lia
 .refine a9 (Dj (ys:=xs++ys) (g:=λx=>x++us.toArray) (ws:=vs++us) i j e rfl g (by simp) (r.append y)) λp q=>?_;exact⟨.none,_,.none,p.tok _,q,h _ rfl⟩
theorem U6(m:σ.H[k]?=Y (.lst xs))(p:xs.length+ys.length<=60000)(h:∀e:Sg,e.H=σ.H.set k (.lst (xs++ys))->Q .none e):dX c f (.builtin "list.extend") [.ref k,.lst ys] l σ Q X:=λvs s j r=>by
 refine r.w9 λv _ a b=>?_;refine b.lstK (P:=λw=>wpAny _ _ (call _ [v,w]) _ _ _) λ_ _ _ _ i x=>?_;exact N3 j a m p i x h
theorem U7(x:σ.H[k]?=Y (.lst xs))(e:σ.H[k2]?=Y (.lst ys))(y:xs.length+ys.length<=60000)(h:∀j:Sg,j.H=σ.H.set k (.lst (xs++ys))->Q .none j):dX c f (.builtin "list.extend") [.ref k,.ref k2] l σ Q X:=λvs s i r=>by
 refine r.w9 λv _ a b=>?_;refine b.i5 (P:=λw=>wpAny _ _ (call _ [v,w]) _ _ _) λ_=>?_;refine dH (i.g.objs k2 _ e) λ_ us m p z=>?_;exact N3 i a x y p z h
end
noncomputable def eQ(g:O->Option PyData):List O->Option (List PyData)
 | []=>Y []
 |x::r=>(g x).bind λd=>(eQ g r).bind λds=>Y (d::ds)
noncomputable def zf:MO->Option (List O)
 | .lst xs=>Y xs
 |_=>Sa
def ais(H:List MO)(g:O->Option PyData):O->Option PyData
 | .none=>Y .none
 | .bool b=>Y (.bool b)
 | .int i=>Y (.int i)
 | .str x=>Y (.str x)
 | .tup xs=>(eQ g xs).map .tuple
 | .lst xs=>(eQ g xs).map .list
 | .ref k=>((H[k]?).bind zf).bind λxs=>(eQ g xs).map .list
 |_=>Sa
def toPy(H:List MO):Nat->O->Option PyData
 |0=>λ_=>Sa
 |n+1=>ais H (toPy H n)
theorem afd(h:zf m=Y xs):m = .lst xs:=by
 induction m with
 |lst ys=>exact congrArg _ (UB h)
 |_=>exact nK h
section
variable{c:GC}{f:Fc}{l:Lc}{σ aje:Sg}{s s':VE}{Q:QV}{X:QX}
theorem DG(j:∀{x d v},toPy σ.H n x=Y d->Rel (σ.V f.pv) s.heap v x->∃as,Reads s.heap v d as)(R:bg (σ.V f.pv) s.heap vs xs):eQ (toPy σ.H n) xs=Y ds->∃as,apy s.heap vs ds as :=R.ind (P:=λvs xs=>∀ds,eQ (toPy σ.H n) xs=Y ds->∃as,apy s.heap vs ds as) (λds e=>sE e ⟨[],.nil⟩) (λa _ i ds e => bK e λd m e=>bK e λh p e=>(j m a).elim λas h1=>(i _ p).elim λb h2=>sE e ⟨as++b,.cons h1 h2⟩) ds
theorem jQ(p:R c f l σ s)(n:Nat):∀{x:O}{d:PyData}{v:VD},toPy σ.H n x=Y d->Rel (σ.V f.pv) s.heap v x->∃as,Reads s.heap v d as:=by
 induction n with
 |zero=>exactλe _=>nK e
 |succ n j =>
  intro x d v e r;refine r.inv (P:=λv=>∃as,Reads s.heap v d as) ?_;induction x using O.casesOn with
  |none=>exact sE e ⟨[],.none⟩
  |bool b=>exact sE e ⟨[],.bool _⟩
  |int i=>exactλt=>sE e ⟨[],.int _ _⟩
  |str x=>exactλt=>sE e ⟨[],.str _ _⟩
  |ref k =>
   exactλlt=>bK e λxs q e=>bK q λm w q=>by
    obtain⟨_,vs,m,g,r⟩:=p.g.objs k _ (by rw[w,afd q]);exact IV e λds q=>(DG j r q).elim λas h=>⟨_,.list g rfl rfl (by simpa using h)⟩
  |tup xs=>exactλa vs n _ g r=>IV e λds q=>(DG j r q).elim λas h=>⟨_,.tuple g rfl rfl (by simpa using h)⟩
  |lst xs=>exactλa vs n _ g r=>IV e λds q=>(DG j r q).elim λas h=>⟨_,.list g rfl rfl (by simpa using h)⟩
  |_=>exact nK e
theorem R.units(a:R c f l σ s):f.A.units+64 < cLine:=by
 exact aeF (Nat.add_le_add_right (VR (akx _ _) a.g.units) 64) (show 9064 < 9900 by decide)
theorem wk(e:R c f l σ s)(h:b<=60):f.A.units+1+min a b < cLine:=aeF (ak5 (VR (apz a b) h) _) (aeF (show f.A.units+61<=f.A.units+64 from ak5 (by decide) _) e.units)
theorem Wz(n m:Nat)(hx:toPy σ.H n x=Y d)(b:toPy σ.H m y=Y e)(s1:ak3 d=W)(z:ak3 e=W)(h:Q (.bool (aaI d e)) σ):bV c f (VV .Eq) x y l σ Q X:=λv w s a r i=>by
 refine VF (jQ a n hx r) λas j=>?_;refine VF (jQ a m b i) λA p=>?_;exact eq_dataH j p s1 z a.units ⟨_,σ,.bool _,a,.refl,h⟩
theorem Xm(n m:Nat)(hx:toPy σ.H n x=Y d)(b:toPy σ.H m y=Y e)(s1:ak3 d=W)(z:ak3 e=W)(h:Q (.bool (!aaI d e)) σ):bV c f (VV .NotEq) x y l σ Q X:=λv w s a r i=>by
 refine VF (jQ a n hx r) λas j=>?_;refine VF (jQ a m b i) λA p=>?_;exact ne_dataH j p s1 z a.units ⟨_,σ,.bool _,a,.refl,h⟩
theorem Xb(n m:Nat)(hx:toPy σ.H n x=Y d)(e:eQ (toPy σ.H m) xs=Y ds)(i:afE ds=W)(j:d.canLay0=W)(b:d.depth<=60)(h:Q (.bool (ds.any λy=>aaI y d)) σ): bV c f (VV .In) x (.tup xs) l σ Q X:=λv w s a r p=>by
 refine VF (jQ a n hx r) λas z=>?_;refine VF (jQ a (m+1) (x:=.tup xs) (d:=.tuple ds) (by show(eQ (toPy σ.H m) xs).map _=_;rw[e];rfl) p) λB A=>?_;exact SeqAt.in_tuple_reads A z i j (wk a b) ⟨_,σ,.bool _,a,.refl,h⟩
theorem Xu(n m:Nat)(hx:toPy σ.H n x=Y d)(e:eQ (toPy σ.H m) xs=Y ds)(i:afE ds=W)(j:d.canLay0=W)(b:d.depth<=60)(h:Q (.bool (!(ds.any λy=>aaI y d))) σ): bV c f (VV .NotIn) x (.tup xs) l σ Q X:=λv w s a r p=>by
 refine VF (jQ a n hx r) λas z=>?_;refine VF (jQ a (m+1) (x:=.tup xs) (d:=.tuple ds) (by show(eQ (toPy σ.H m) xs).map _=_;rw[e];rfl) p) λB A=>?_;exact SeqAt.notIn_tuple_reads A z i j (wk a b) ⟨_,σ,.bool _,a,.refl,h⟩
theorem WZ(n m:Nat)(hx:toPy σ.H n x=Y d)(e:toPy σ.H m y=Y (.list ds))(i:afE ds=W)(j:d.canLay0=W)(b:d.depth<=60)(h:Q (.bool (ds.any λy=>aaI y d)) σ): bV c f (VV .In) x y l σ Q X:=λv w s a r p=>by
 refine VF (jQ a n hx r) λas z=>?_;refine VF (jQ a m e p) λB A=>?_;exact SeqAt.in_list_reads A z i j (wk a b) ⟨_,σ,.bool _,a,.refl,h⟩
theorem Xr(n m:Nat)(hx:toPy σ.H n x=Y d)(e:toPy σ.H m y=Y (.list ds))(i:afE ds=W)(j:d.canLay0=W)(b:d.depth<=60)(h:Q (.bool (!(ds.any λy=>aaI y d))) σ): bV c f (VV .NotIn) x y l σ Q X:=λv w s a r p=>by
 refine VF (jQ a n hx r) λas z=>?_;refine VF (jQ a m e p) λB A=>?_;exact SeqAt.notIn_list_reads A z i j (wk a b) ⟨_,σ,.bool _,a,.refl,h⟩
theorem Xa(h:Q (.bool (!(abH y x 0 y.length 1).isEmpty)) σ):bV c f (VV .In) (.str x) (.str y) l σ Q X:=λv w s a r b=>by
 refine r.i7 λ_=>b.i7 λ_=>?_;exact PySem.P.in_str ⟨_,σ,.bool _,a,.refl,h⟩
theorem Xs(h:Q (.bool (!(!(abH y x 0 y.length 1).isEmpty))) σ):bV c f (VV .NotIn) (.str x) (.str y) l σ Q X:=λv w s a r b=>by
 refine r.i7 λ_=>b.i7 λ_=>?_;exact PySem.P.notIn_str ⟨_,σ,.bool _,a,.refl,h⟩
theorem WY(b:σ.H[k]?=Y (.bu fs))(h:Q (.bool (fs.lookup x).isSome) σ):bV c f (VV .In) (.str x) (.ref k) l σ Q X:=λv w s a r p=>by
 refine r.i7 λ_=>p.i5 λ_=>?_;refine zx (a.g.objs k _ b) λe es n g r j _=>?_;have hm:=IW (P:=c.prog) g r j;have m:(σ.μ k == aic)=UA:=by
  rw[VQ];intro q;have z:=(a.g.own (σ.μ k) (by rw[e];simp)).1;rw[q]at z;exact c.mods z
 refine wpAny_in_of (ala _ _ x _) m hm ?_;cases q:fs.lookup x with
 |none=>rw[yr _ _ _ (r.miss x q)];exact dy a (.bool _) (by rw[q]at h;exact h)
 |some y=>refine aU (r.find x q) λu i _=>?_;rw[yr _ _ _ i];exact dy a (.bool _) (by rw[q]at h;exact h)
end
noncomputable def mA:MO->Option (List O)
 | .lst xs=>Y xs
 |_=>Sa
def listOf(H:List MO):O->Option (List O)
 | .lst xs=>Y xs
 | .ref k=>H[k]?.bind mA
 |_=>Sa
theorem QR{m:MO}(e:mA m=Y xs):m = .lst xs:=by
 cases m<;>first|exact congrArg MO.lst (UB e)|exact bN e
section
variable{c:GC}{f:Fc}{l:Lc}{σ aje:Sg}{s s':VE}{Q:QV}{X:QX}
theorem oG(h:R c f l σ s)(r:Rel (σ.V f.pv) s.heap v x)(e:listOf σ.H x=Y xs):∃a vs n,v = .ref a/\IsL s.heap a (aqx vs) n/\bg (σ.V f.pv) s.heap vs xs:=by
 cases x<;>first|exact bN e|skip
 .rename_i k
  refine a9 r.nN λi lt=>?_;have e:σ.H[k]?.bind mA=Y xs:=e;cases b:σ.H[k]? with
  |none=>rw[b]at e;exact bN e
  |some m =>
   rw[b]at e;have:=QR e;subst this;refine dH (h.g.objs k _ b) λ_ vs n g r=>?_;exact⟨_,vs,n,i,g,r⟩
 .rename_i ys
  rw[show ys=xs from UB e]at r;exact oR r.lst_inv λa vs n e _=>λg r=>⟨a,vs,n,e,g,r⟩
theorem Ws(hx:listOf σ.H x=Y xs)(z:listOf σ.H y=Y ys)(A:xs.length+ys.length<=WI)(h:Q (.lst (xs++ys)) σ):bV c f (aiV .Add) x y l σ Q X:=λv w s j r B=>by
 refine gS (oG j r hx) λa vs n i g rs=>?_;subst i;refine gS (oG j B z) λb us m i p rt=>?_;subst i;refine PySem.P.add_list g p ?_ (by rw[VN,VN,rs.length,rt.length];exact A);have e:vs.toArray++us.toArray=(vs++us).toArray:=by simp
 rw[e];exact zl j (rs.append rt) h
theorem XA(j:0<=n)(b:n<=1000000)(i:a.natAbs < 2 ^ 64)(h:Q (.int (a * 2 ^ n.toNat)) σ):bV c f (aiV .LShift) (.int a) (.int n) l σ Q X:=λv w s e r m=>by
 refine r.d7 λ_=>m.d7 λ_=>?_;exact lshift_int_small j b i (dy e (.int _ _) h)
noncomputable def qv(n:Nat)(xs:List O):List O:=(acd n xs).flatten
theorem bg.rep(r:bg V h vs xs):∀n,bg V h (acd n vs).flatten (qv n xs)
 |0=>.nil
 |n+1=>by
  unfold qv;rw[alN,alN,am6,am6];exact r.append (r.rep n)
theorem Zn(hm:aoz [ajQ,ajR] [ajS,ajT]=UA)(h:bG c f a l σ (λx G=>bG c f ajS l G (λy H=>bV c f (VV ajQ) x y l H (λz M=>lO c f z l M (λb j=>if b then bG c f ajT l j (λu E=>bV c f (VV ajR) y u l E Q X) X else Q z j) X) X) X) X): bG c f (.Compare a [ajQ,ajR] [ajS,ajT] pos) l σ Q X:=λs hR=>by
 refine Compare_chain (cH (h s hR) (λv s₁ x G rv I e ajj=>chain_link (cH (ajj s₁ I) (λw ajl y H rw L i ajo=>cH (ajo v w ajl L (rv.step i I.own) rw) (λz ajv zz M rz B A N =>
  hW (N z ajv B rz) (λb T j D C q=>?_) λ_ _ p=>p.after ((e.trans i).trans A)) λ_ _ p=>p.after (e.trans i)) λ_ _ p=>p.after e)) λ_ _ p=>p) hm
 have S:=((e.trans i).trans A).trans C;induction b using cB with
 |false=>exact⟨zz,j,rz.step C B.own,D,S,q⟩
 |true =>
  refine chain_last (cH (q T D) (λu Z uu E ru ajO m ajP=>WD (ajP w u Z ajO (((rw.step A L.own).step C B.own).step m D.own) ru) (λ_ _ p=>p.after (S.trans m)) λ_ _ p=>p.after (S.trans m)) λ_ _ p=>p.after S)
theorem ZJ{Q:QB}(hm:aoz [ajQ,ajR] [ajS,ajT]=UA)(h:bG c f a l σ (λx G=>bG c f ajS l G (λy H=>bV c f (VV ajQ) x y l H (λz M=>lO c f z l M (λb m=>if b then bG c f ajT l m (λu C=>bV c f (VV ajR) y u l C (λz D=>lO c f z l D Q X) X) X else Q UA m) X) X) X) X): gk c f (.Compare a [ajQ,ajR] [ajS,ajT] pos) l σ Q X:=λs hR=>by
 refine isTrue_chain (cH (h s hR) (λv s₁ x G rv I i ajj=>test_link (cH (ajj s₁ I) (λw ajl y H rw L j ajo=>cH (ajo v w ajl L (rv.step j I.own) rw) (λz ajv zz M rz N A ajD =>
  hW (ajD z ajv N rz) (λb ajG m B T q=>?_) λ_ _ p=>p.after ((i.trans j).trans A)) λ_ _ p=>p.after (i.trans j)) λ_ _ p=>p.after i)) λ_ _ p=>p) hm
 have S:=((i.trans j).trans A).trans T;induction b using cB with
 |false=>exact⟨m,B,S,q⟩
 |true =>
  refine test_last (cH (q ajG B) (λu ajN uu C ru ajO e ajP=>cH (ajP w u ajN ajO (((rw.step A L.own).step T N.own).step e B.own) ru) (λzz Z z6 D r6 ajV E aj8 =>
   hW (aj8 zz Z ajV r6) (λ_ _ aj9 aka akb q=>⟨aj9,aka,((S.trans e).trans E).trans akb,q⟩) λ_ _ p=>p.after ((S.trans e).trans E)) λ_ _ p=>p.after (S.trans e)) λ_ _ p=>p.after S)
theorem Xi(hx:listOf σ.H x=Y xs)(E:0<=n)(G:n<=1000)(z:xs.length<=1000)(h:Q (.lst (qv n.toNat xs)) σ):bV c f (aiV .Mult) x (.int n) l σ Q X:=λv w s y r D=>by
 refine D.d7 λu=>?_;refine gS (oG y r hx) λa vs k b g rs=>?_;subst b;have A:vs.toArray.size * n.toNat<=2 ^ 24:=by
  rw[VN,rs.length];have:xs.length * n.toNat<=1000 * 1000:=Nat.mul_le_mul z (by lia);lia
 refine wpAny_binaryOp_repeat_ref (T:="list") (U:="int") (by decide) ⟨_,g,rfl⟩ (λs'=>typeIs_int s' n u) noFill_list_mul PySem.F.fills_int_mul an8 repeat_list PySem.F.slot_int_index.lookup
  (akY an8 (typeIs_int s n u) PySem.F.entry_int_rmul (PySem.F.args_int_rmul_2 _ _) (int___rmul___int_list n u a vs.toArray k)
   ⟨g,rfl,⟨_,g,rfl⟩,akY PySem.F.slot_list_mul ⟨_,g,rfl⟩ PySem.F.entry_list_mul (PySem.F.args_list_mul_2 _ _)
    (AutoListH.list___mul___list_int_3 a vs.toArray k n u (by simp[aqo];lia) (by lia) (by
     have sl:WI=16777216:=by decide
     have C:¬decide (vs.toArray.size * n.toNat > WI)=W:=by rw[akm,sl];lia
     exact C))
    ⟨g,?_⟩⟩)
 have e:aqY (λj x2=>j++x2) #[] (acd (if vs.toArray.isEmpty=W then 0 else n.toNat) vs.toArray)=(acd n.toNat vs).flatten.toArray:=by
  have i:∀(m:Nat) (acc:List VD),aqY (λj x2:Array VD=>j++x2) acc.toArray (acd m vs.toArray)=(acc++(acd m vs).flatten).toArray:=by
   intro m;induction m with
   |zero=>intro acc;simp
   |succ m B =>
    intro acc;rw[alN,List.foldl_cons,alN,am6];have e2:acc.toArray++vs.toArray=(acc++vs).toArray:=by simp
    rw[e2,B (acc++vs),akn]
  induction vs using cL with
  |nil=>simp[List.flatten]
  |cons v r =>
   have:((v::r).toArray.isEmpty=W)=False:=by simp
   rw[VP (by rw[this];exact id)];exact(i n.toNat []).trans (by simp)
 have p:=zl (s:=s) y (rs.rep n.toNat) h;rw[←e]at p;exact p
end
structure XP where
 (nm q:Str) (N:VI) (bs bm:List VD) (hdct:Bool) (sn:List Str) (sub:List VD) (ab:Bool) (col:Option Bool) (dd:Option VI) (k0 k1 k2 k3 k5:Option VD) (nid:String)
noncomputable abbrev XP.o(p:XP)(C:VI):Obj:=excClassObj p.nm p.q C p.N p.bs p.bm p.hdct p.sn p.sub p.ab p.col p.dd p.k0 p.k1 p.k2 p.k3 p.k5 p.nid
section
variable{xp:XP}{C:VI}{bmB:List VD}{B initId:String}
section
variable{M:am8}{A:af2}{E:VD->VE->Prop}{h:WA}{g:Array anr}{d:aof}{t:Nat}{os:acH}
theorem aiQ(F:alT B xp.nid initId bmB)(f:xp.bm.contains (.type B)=W){P:Unit->VE->Prop}(b:h.get? C=Y (xp.o C))(hq:P () ⟨h,g,d,t,os⟩):wpAny M A (alG xp.nid ⟨.ref C::rest,[]⟩) P E ⟨h,g,d,t,os⟩:=by
 have a:(acm C::xp.bm).contains (.type B)=W:=by rw[akh,f,alx]
 have e:=F.noStar;unfold alG;rw[F.newKind,F.newSplit,F.newRow];dsimp only
 repeat (first|refine wpAny_loadPart_at b ?_|(refine wpAny_isSubtype_exc b ?_;rw[a])|refine wpAny_staticBase_exc b ?_|refine wpAny_madeBy_exc b ?_|simp only[bne_self_eq_false,Bool.false_eq_true,if_false]|wp_step)
 exact hq
end
variable{prog:akH}{w:afJ}{A:af2}{E:VD->VE->Prop}{R:alI->VE->Prop}{h:WA}{g:Array anr}{d:aof}{t:Nat}{os:acH}
theorem aiT(F:alT B xp.nid initId bmB)(m:xp.bm.contains (.type B)=W)(l:xp.bm.contains (.type "AttributeError")=UA)(x:xp.bm.contains (.type "NameError")=UA)(b:h.get? C=Y (xp.o C))(hq:R (.ok (.ret (.ref (h.objs.size+1)))) ⟨(h.push {cls:=.type "tuple",data:=.seq rest.toArray}).push (fY C Sa h.objs.size),g,d,t,os⟩)(hrest:rest.length<=WI): aky (VL prog w) A (.builtin xp.nid ⟨.ref C::rest,[]⟩) R ⟨h,g,d,t,os⟩:=by
 have j:=F.ends;have f:(acm C::xp.bm).contains (.type B)=W:=by rw[akh,m,alx]
 have e:(acm C::xp.bm).contains (.type "AttributeError")=UA:=by rw[akh,l];rfl
 have i:(acm C::xp.bm).contains (.type "NameError")=UA:=by rw[akh,x];rfl
 refine PySem.codeAny_builtinAt F.entry ?_;unfold Builtin.«BaseException.__new__»;refine apU ?_;show PySem.wpAt _ _ _ (stack >>= _) _ _ _;refine apU (PySem.wpAt_stack λp a=>aon ?_)
 wp_walk
 refine aon ?_;rw[F.owner]
 repeat (first|with_reducible refine wpAny_madeHere_exc F.canon b ?_|with_reducible refine wpAny_loadPart_at b ?_|(with_reducible refine wpAny_isSubtype_exc b ?_;first|rw[f]|rw[e]|rw[i])|wp_step)
 show R _ _;rw[aly];exact hq
theorem aiU{K:af7}(X:K.In h)(F:alT B xp.nid initId bmB)(y:xp.bm.contains (.type B)=W)(z:xp.bm.contains (.type "AttributeError")=UA)(D:xp.bm.contains (.type "NameError")=UA){rest:List VD}{m:VI}{P:Fin->VE->Prop}(f:h.get? C=Y (xp.o C))(hi:aga K (.ref C) "__init__" = Y (Y (.ref m)))(H:amw K (.ref m)=Y (.type "function"))(hq:wpAny (VL prog w) A (call (.ref m) (.ref (h.objs.size+1)::rest)) (λr s'=>r = .none/\P (.done (.ret (.ref (h.objs.size+1)))) s') E ⟨(h.push {cls:=.type "tuple",data:=.seq rest.toArray}).push (fY C Sa h.objs.size),g,d,t,os⟩)(hrest:rest.length<=WI): wpAny (VL prog w) A (Builtin.«type.__call__» ⟨.ref C::rest,[]⟩) P E ⟨h,g,d,t,os⟩:=by
 repeat (first|with_reducible refine wpAny_loadPart_at f ?_|with_reducible refine wpAny_madeBy_exc f ?_|wp_step)
 refine codeAny_call_builtin_code (aoA _ F.quiet) (aiQ F y f ?_);refine aiT F y z D f ?_ hrest;show wpAny _ _ _ _ _ _;have k:∀b o,h.get? b=Y o->((h.push { cls:=.type "tuple",data:=.seq rest.toArray}).push (fY C Sa h.objs.size)).get? b=Y o:=λb o e=>VX _ (VX _ e);have l:=k _ _ f;have a:=X.keeps k;have i:((h.push { cls:=.type "tuple",data:=.seq rest.toArray}).push (fY C Sa h.objs.size)).get? (h.objs.size+1)=Y (fY C Sa h.objs.size):=by heap_get
 have p:(acm C::xp.bm).contains (.ref C)=W:=by simp
 unfold ane
 repeat (first|with_reducible refine wpAny_loadPart_at i ?_|(with_reducible refine wpAny_isSubtype_exc l ?_;rw[p])|wp_step)
 show wpAny _ _ (apM (.ref C) _) _ _ _;refine(alS a hi).here ?_;refine ab9 (wpAny_bind ((bind_fn a _ H).here (wpAny_bind (WD hq (λr s' I=>?_) λ_ _ x=>x))));refine a9 I λj G=>?_;subst j
 wp_walk
 exact G
theorem x_call{K:af7}(X:K.In h)(F:alT B xp.nid initId bmB)(i:xp.bm.contains (.type B)=W)(f:xp.bm.contains (.type "AttributeError")=UA)(j:xp.bm.contains (.type "NameError")=UA){rest:List VD}{b:VI}(a:h.get? C=Y (xp.o C))(hi:aga K (.ref C) "__init__" = Y (Y (.ref b)))(l:amw K (.ref b)=Y (.type "function"))(hq:aky (VL prog w) (A.under (.builtin "type.__call__" ⟨.ref C::rest,[]⟩)) (.call (.ref b) ⟨.ref (h.objs.size+1)::rest,[]⟩) (InitBack (h.objs.size+1) R) ⟨(h.push {cls:=.type "tuple",data:=.seq rest.toArray}).push (fY C Sa h.objs.size),g,d,t,os⟩)(hrest:rest.length<=WI): aky (VL prog w) A (.call (.ref C) ⟨rest,[]⟩) R ⟨h,g,d,t,os⟩:=by
 have f1:=tc_lookup;have f2:=tc_bind (.ref C);have m:(⟨h,g,d,t,os⟩: VE).TypeIs (.ref C) "type":=⟨_,a,rfl⟩;refine codeAny_of_tree ?_;show wpAny _ _ (callAny (.ref C) _) _ _ _
 repeat (any_goals (first|assumption|with_reducible refine wpAny_loadPart_at a ?_|wp_step))
 refine⟨rfl,?_⟩;refine codeAny_call_builtin_at (aoA _ (by decide +kernel)) entry_typeCall (wpAny_check_type_call_sub a (aiU (hrest:=hrest) X F i f j a hi l (anc (ak2 hq λr s' z=>?_))));rcases r with e|(v|_|_|_)<;>first|exact z|exact z.elim|skip
end
structure tq (c:GC) (C fI:VI):Prop where
 at_:∃xp:XP,c.base.get? C=Y (xp.o C)/\xp.nid = "Exception.__new__" /\
  xp.bm.contains (.type "Exception")=W/\xp.bm.contains (.type "BaseException")=W/\xp.bm.contains (.type "AttributeError")=UA/\xp.bm.contains (.type "NameError")=UA
 init:aga c.K (.ref C) "__init__" = Y (Y (.ref fI))
 fn:amw c.K (.ref fI)=Y (.type "function")
section
variable{c:GC}{n:Nat}{pv:VI->Prop}{fr:List Env}{A A':af2}{f:Fc}{l:Lc}{σ aje:Sg}{s s':VE}{Q:QV}{X:QX}
theorem call_exc{C L:VI}{xs:List O}(D:tq c C L)(hz:xs.length<=100)(h:∀N:Sg,N.H=σ.H++[.exc C []]->jV c (n+1) (.ref L) (.ref σ.H.length::xs) N (λr B=>r = .none/\Q (.ref σ.H.length) B) X):jV c (n+2) (.ref C) xs σ Q X:=by
 intro pv fr A s i G r;have X0:=ia G;have sl:WI=16777216:=by decide
 refine Dd D.at_ λxp hC bn b1 b2 b3 b4=>?_;have E:=G.stays _ _ hC;obtain⟨a,g,d,t,os⟩:=s;generalize ho:({ cls:=.type "tuple",data:=.seq i.toArray}:Obj)=j;have k:a.StaysIn ((a.push j).push (fY C none a.objs.size)):=λb o e=>VX _ (VX _ e);have e1:((a.push j).push (fY C none a.objs.size)).get? (a.objs.size+1)=some (fY C none a.objs.size):=by heap_get
 have M:∀x,(none:Option VI)=some x->a.objs.size<=x/\∃o,((a.push j).push (fY C none a.objs.size)).get? x=some o:=λx e=>by exact bN e
 have I:(σ.add (a.objs.size+1) (.exc C []) none).μ σ.H.length=a.objs.size+1:=VY rfl;have ok:Ok c.w.params (σ.add (a.objs.size+1) (.exc C []) none) ((σ.add (a.objs.size+1) (.exc C []) none).V pv) ((a.push j).push (fY C none a.objs.size)) σ.H.length (.exc C []) :=
  ⟨by rw[I];exact VY rfl,a.objs.size,none,by rw[I];exact e1,rfl⟩
 have Z:=Rg.add G (h':=(a.push j).push (fY C none a.objs.size)) k (alm _) ⟨_,e1⟩ M ok;have S1:aQ (λ_=>False) pv σ a (σ.add (a.objs.size+1) (.exc C []) none) ((a.push j).push (fY C none a.objs.size)):=aQ.add G k (alm _) λx e=>(M x e).1;have go:Go (σ.V pv) a ((σ.add (a.objs.size+1) (.exc C []) none).V pv) ((a.push j).push (fY C none a.objs.size)):=S1.go λ_ z=>z.elim;have hde:=G.depth;have hun:=G.units;have d1:=TZ (A:=A) C i [];have u1:=T4 (A:=A) C i [];have G2:=Z.wM (A':=A.under (.builtin "type.__call__" ⟨.ref C::i,[]⟩)) (n':=n+1) (w4 C i []) G.hand (by lia) (by lia);refine x_call X0 (bn▸anf) b1 b3 b4 E D.init D.fn ?_ (by rw[r.length,sl];lia);rw[ho];refine ak2 (h _ rfl pv fr _ _ (.ref (a.objs.size+1)::i) G2 (.cons Rel.added (r.go go))) λres s' p=>?_;rcases res with e|(_|_|_|v)
 .refine uY p λx aje T y S q=>?_;exact⟨x,aje,T,y.wM (w4 C i []).symm G.hand G.depth G.units,S1.trans S,q⟩
 .exact p.elim
 .exact p.elim
 .exact p.elim
 .refine nJ p λx aje rv y S m q=>?_;subst m;cases rv.none_inv;refine⟨rfl,.ref σ.H.length,aje,?_,y.wM (w4 C i []).symm G.hand G.depth G.units,S1.trans S,q⟩;have lt:σ.H.length < (σ.add (a.objs.size+1) (.exc C []) none).H.length:=by show _ < (σ.H++[_]).length;simp
  have e:=(S.mu σ.H.length lt).trans I;have z:Rel (aje.V pv) s'.heap (.ref ((aje.V pv).μ σ.H.length)) (.ref σ.H.length):=.ref (VT lt S.n)
  rwa [show(aje.V pv).μ σ.H.length=a.objs.size+1 from e]at z
end
noncomputable def zX:VD->String | .type a=>a|_=>""
noncomputable def Qc:VD->Bool | .ref _=>W|_=>UA
def uW:List VD->Bool
 | []=>UA
 |v::r=>Qc v&&uW r||zX v == "Exception" && r.map zX == ["BaseException", "object"]
theorem JY(h:zX v=n)(k:n ≠ ""):v = .type n:=by
 subst h;revert k;cases v<;>intro k<;>first|exact rfl|exact absurd rfl k
theorem N1{P:List VD->Prop}(i:P [.type "Exception",.type "BaseException",.type "object"])(h1:∀c r,uW r=W->P r->P (.ref c::r)):∀{l:List VD},uW l=W->P l:=by
 intro l;induction l with
 |nil =>
  exact@λh=>nomatch h
 |cons v r m =>
  exact@λh=>by
   have h:(Qc v&&uW r||zX v == "Exception" && r.map zX == ["BaseException", "object"])=W:=h;rw[amx,VG,VG,akP,akP]at h;rcases h with ⟨e,h2⟩|⟨e,h2⟩
   .have e:∃c,v = .ref c:=by revert e;cases v<;>intro e<;>first|exact⟨_,rfl⟩|exact nomatch e
    refine VF e λc f=>?_;subst f;exact h1 c r h2 (m h2)
   .rw[JY e (by decide)];induction r using cL with
    |nil=>cases h2
    |cons a r =>
    induction r using cL with
    |nil=>exact nomatch (akt h2).2
    |cons b r =>
    induction r using cL with
    |cons d r=>exact nomatch (akt (akt h2).2).2
    |nil =>
     refine a9 (akt h2) λj hb=>?_;rw[JY j (by decide),JY (akt hb).1 (by decide)];exact i
theorem ag8(a:VD)(h:uW l=W):refuseLoop a "__setattr__" l=pure () :=
 N1 (P:=λl=>refuseLoop a "__setattr__" l=pure ()) (PySem.F.store_Exception.passes a) (λc r h i=>by
  rw[refuseLoop_ref];exact i) h
theorem acu(h:uW l=W):l.contains (.type "object")=W :=N1 (P:=λl=>l.contains (.type "object")=W) rfl (λc r _ i=>by rw[akh,i,alx]) h
def vC(K:af7)(C:VI):Bool:=(clsIn K C).any λa=>uW a.mro
section
variable{prog:akH}{w:afJ}{A:af2}{E:VD->VE->Prop}{s:VE}{K:af7}{x C dx:VI}{ox:Obj}{od:Option Obj}{es:List VM}{n:Nat}{name:Str}{v:VD}{R:alI->VE->Prop}
theorem Rz(X:K.In s.heap)(I:InstAt s.heap x ox C od)(L:vC K C=W)(M:al4 K C name=Y Sa)
  (h:∀b,wpAny (VL prog w) A.in1 (apl (.ref x) (.ref C) (.str name tk) name v b)
   (λp s'=>match p with | .done f=>R (.ok f) s' | .again z=>z.quiet=W/\aky (VL prog w) A z R s') (λe s'=>R (.error e) s') s) :
  aky (VL prog w) A (.call (.builtin "object.__setattr__") ⟨[.ref x,.str name tk,v],[]⟩) R s:=by
 have j:=PySem.F.store_object;refine aU (apu L) λm B l=>?_;have N:m.mro.isEmpty=UA:=by cases q:m.mro with|nil=>rw[q]at l;cases l|cons _ _=>rfl
 have sub:amg (VL prog w) s.heap (ane (.ref x) (.type "object")) W:=I.type.andThen (looks_mroIn X (by unfold mroIn;rw[B,ans,VP (by rw[N];decide),acu l]));refine amy j.slot.plain j.entry (@check_slot (VL prog w) _ _ s "object.__setattr__" "object" "__setattr__" (.ref x) [.str name tk,v] [] _ j.kind j.split sub (j.args (.ref x) (.str name tk) v) ?_);refine aU (Option.bind_eq_some_iff.mp M) λi H D=>?_;have hm:amg (VL prog w) s.heap (mroOf (.ref C)) m.mro:=(anQ X B).andThen .now;have G:amg (VL prog w) s.heap (apV i) Sa:=by
  induction i using cO with
  |none=>cases D;exact .now
  |some a =>
   refine aU (alo.mp D) λb hb y=>?_;refine(looks_takesIn X hb).andThen ?_;cases b
   .exact .now
   .exact gJ y
 rw[osa_eq,refuse_eq];refine wpAny_bind (wpAny_bind (I.type.here (wpAny_bind (hm.here ?_))));rw[ag8 _ l];refine wpAny_pure (wpAny_bind (I.type.here (wpAny_bind ((alS X H).here (wpAny_bind (G.here ?_))))));exact h _
theorem afZ(X:K.In s.heap)(hx:s.heap.get? x=Y (fY C (Y dx) t))(D:s.heap.get? dx=Y (ace es n))(j:vC K C=W)(l:al4 K C name=Y Sa)(hh:akJ K C=W)(i:(amj name es).isSome=W)(m:es.length<=900)(h:R (.ok (.ret .none)) {s with heap:=s.heap.update dx (akN name (acC w.params name) (.str name s.toks) v),toks:=s.toks+1}): aky (VL prog w) A (.call (.builtin "object.__setattr__") ⟨[.ref x,.str name tk,v],[]⟩) R s:=by
 refine Rz X (od:=Y (ace es n)) ⟨hx,rfl,rfl,D⟩ j l λb=>?_;refine aU (apu hh) λp f e=>?_;refine wpAny_bind (wpAny_pure (wpAny_bind (wpAny_bind (amJ hx (wpAny_bind ((anQ X f).here ?_))))));rw[e];exact wpAny_pure (a:=Y dx) (JJ D i m h)
theorem afY(X:K.In s.heap)(hx:s.heap.get? x=Y (fY C Sa t))(l:vC K C=W)(m:al4 K C name=Y Sa)(hh:akJ K C=W)(h:R (.ok (.ret .none)) {s with heap:=((s.heap.push ah5).update x λo=>{o with dict:=Y s.heap.objs.size}).update s.heap.objs.size (akN name (acC w.params name) (.str name s.toks) v),toks:=s.toks+1}): aky (VL prog w) A (.call (.builtin "object.__setattr__") ⟨[.ref x,.str name tk,v],[]⟩) R s:=by
 refine Rz X (od:=Sa) ⟨hx,rfl,rfl,trivial⟩ l m λb=>?_;refine aU (apu hh) λp j f=>?_;have e:(s.heap.push ah5).get? x=Y (fY C Sa t):=VX _ hx;have i:x≠s.heap.objs.size:=abv (WK hx);have D:((s.heap.push ah5).update x λo=>{o with dict:=Y s.heap.objs.size}).get? s.heap.objs.size=Y (ace [] 0) :=
  (ak6 _ _ _ _ i.symm).trans (ao4 rfl rfl)
 refine wpAny_bind (wpAny_pure (wpAny_bind (wpAny_bind (amJ hx (wpAny_bind ((anQ X j).here ?_))))));rw[f];refine wpAny_bind (wpAny_alloc ?_);refine wpAny_bind (wpAny_update (s:={s with heap:=s.heap.push ah5}) e ?_);refine wpAny_pure (a:=Y s.heap.objs.size) ?_;exact JJ (s:={s with heap:=(s.heap.push ah5).update x λo=>{o with dict:=Y s.heap.objs.size} }) D rfl (by simp) h
end
noncomputable def Sg.putD(g:Sg)(k:Nat)(m:MO)(d:VI):Sg:=⟨g.H.set k m,g.μ,λb=>if b=d then Y (k,W) else g.σ b⟩
section
variable{c:GC}{n:Nat}{P pv:VI->Prop}{fr:List Env}{A:af2}{f:Fc}{l:Lc}{σ aje:Sg}{s s':VE}{h':WA}
theorem Go.putD(G:Rg c n pv fr A σ s)(h:σ.σ a=Y (k,b))(i:s.heap.objs.size<=d)(j:∀b o,b≠a->s.heap.get? b=Y o->h'.get? b=Y o): Go (σ.V pv) s.heap ((σ.putD k m d).V pv) h':=
 ⟨by show _<=(σ.H.set k m).length;rw[akT];exact VJ _,λ_ _=>rfl,λx o e t q=>t (q.elim (λz=>.inl λw=>z (by
   show(if x=d then _ else σ.σ x)=Sa;rw[VP (abv (VT (WK e) i))];exact w)) .inr),λx o e t _=>⟨o,j x o (λz=>t (.inl (by rw[z,h];simp))) e,.rfl⟩⟩
theorem aQ.putD(h:σ.σ a=Y (k,b))(i:s.heap.objs.size<=d)(j:∀b o,b≠a->s.heap.get? b=Y o->h'.get? b=Y o):aQ P pv σ s.heap (σ.putD k m d) h' :=
 ⟨by show _<=(σ.H.set k m).length;rw[akT];exact VJ _,λ_ _=>rfl,λx o e _ q=>⟨by
   show(if x=d then _ else σ.σ x)=Sa;rw[VP (abv (VT (WK e) i))];exact q,.same (j x o (λz=>by rw[z,h]at q;exact gJ q) e)⟩⟩
theorem Rg.putD(G:Rg c n pv fr A σ s)(I:σ.H[k]?=Y m₀)(B:σ.σ a=Y (k,b))(D:s.heap.objs.size<=d)(h:∀b o,b≠a->s.heap.get? b=Y o->h'.get? b=Y o)
  (T:∃o,h'.get? a=Y o) (X:∃o,h'.get? d=Y o) (ok:Ok c.w.params (σ.putD k m d) ((σ.putD k m d).V pv) h' k m):Rg c n pv fr A (σ.putD k m d) {s with heap:=h'} where
 stays:=λx o e=>h x o (λz=>by have:=(G.own a (by rw[B];simp)).1;rw[z,this]at e;exact bN e) (G.stays x o e)
 frames:=frames_at (λenv he L Q o e S=>⟨o,h L o (λz=>by have:=(G.dm L (G.fy env he L Q)).1;rw[z,B]at this;exact gJ this) e,S⟩) G.frames
 stack:=G.stack
 hand:=G.hand
 depth:=G.depth
 units:=G.units
 fy:=G.fy
 dm:=λx q=>by
  refine hY (G.dm x q) λu y o e w=>?_;exact⟨by show(if x=d then _ else σ.σ x)=Sa;rw[VP (abv (VT (WK e) D))];exact u,y,o,h x o (λz=>by rw[z,B]at u;exact gJ u) e,w⟩
 objs:=λi m' e=>by
  have e:(σ.H.set k m)[i]?=Y m':=e;have lt:k < σ.H.length:=by
   rcases aos k σ.H.length with z|z
   .exact z
   .rw[WN z]at I;exact bN I
  by_cases hi:k=i
  .subst hi;rw[alj lt]at e;have Z:=UB e;clear e;subst Z;exact ok
  .rw[acF hi]at e;have x:=G.objs i m' e;have go:=Go.putD (m:=m) G B D h;have j:∀y q,σ.σ y=Y (i,q)->y≠a:=λy q z w=>by rw[w,B]at z;cases z;exact hi rfl
   have p:∀y q,σ.σ y=Y (i,q)->(σ.putD k m d).σ y=Y (i,q):=λy q z=>by
    refine nH (G.own y (by rw[z];simp)) λ_ o E=>?_;show(if y=d then _ else σ.σ y)=_;rw[VP (abv (VT (WK E) D))];exact z
   cases m' with
   |lst xs=>refine dH x λe vs n g r=>?_;exact⟨p _ _ e,vs,n,h _ _ (j _ _ e) g,r.go go⟩
   |bu fs=>refine wC x λe es n g r q=>?_;exact⟨p _ _ e,es,n,h _ _ (j _ _ e) g,r.go go,q⟩
   |inst C fs=>refine nI x λe d es n e2 g N r=>?_;exact⟨p _ _ e,d,es,n,p _ _ e2,h _ _ (j _ _ e) g,h _ _ (j _ _ e2) N,r.go go⟩
   |exc C fs=>refine dH x λe t M g r=>?_;exact⟨p _ _ e,t,M,h _ _ (j _ _ e) g,r.move go (λb q z=>p b q z) λb q o z w _=>h _ _ (j b q z) w⟩
   |dead=>trivial
 own:=λx e=>by
  have e:(if x=d then Y (k,W) else σ.σ x)≠Sa:=e;by_cases h1:x=d
  .subst h1;exact⟨G.mV D,X⟩
  .rw[VP h1]at e;refine nH (G.own x e) λy o E=>?_;by_cases h2:x=a
   .subst h2;exact⟨y,T⟩
   .exact⟨y,o,h x o h2 E⟩
 gens:=G.gens
 os:=G.os
theorem Xx{Q:Sg->Prop}(M:σ.H[k]?=Y (.exc C fs))(hs:aga c.K (.ref C) "__setattr__" = Y (Y (.builtin "object.__setattr__")))(Z:vC c.K C=W)(S:al4 c.K C name=Y Sa)(hh:akJ c.K C=W)(hz:fs.length<=900)(h:∀τ:Sg,τ.H=σ.H.set k (.exc C (cC name y fs))->Q τ):Aj c f (λv w=>aoK v name w) (.ref k) y l σ Q X:=λv w s i r ry=>by
 refine a9 r.nN λev lt=>?_;subst ev;refine dH (i.g.objs k _ M) λe t dd g D=>?_;have x:=ia i.g;induction dd using cO with
 |some d =>
  refine dH D λe2 es n I r=>?_;refine aqe x (ox:=fY C (Y d) t) (od:=Y (ace es n)) ⟨g,rfl,rfl,I⟩ hs (afZ (s:={s with toks:=s.toks+1}) x g I Z S hh (r.Oy name) (by rw[r.length];exact hz) ?_);obtain⟨a,b⟩:=RN (m:=.exc C (cC name y fs)) (g:=akN name (acC c.w.params name) (.str name (s.toks+1)) w) i M e2 I (amt _ _ _ _ _ _) (λh' D' sb go =>
   ⟨e,t,Y d,(sb.2 _ λq=>by rw[show σ.μ k=d from q,e2]at e;cases e).trans g,e2,_,_,D',cD.put (ry.go go) (r.go go)⟩) (s.toks+2)
  exact⟨_,a,b,h _ rfl⟩
 |none =>
  have D:fs=[]:=D;subst D;refine aqe x (ox:=fY C Sa t) (od:=Sa) ⟨g,rfl,rfl,trivial⟩ hs (afY (s:={s with toks:=s.toks+1}) x g Z S hh ?_);have N:σ.μ k≠s.heap.objs.size:=abv (WK g);generalize hG:akN name (acC c.w.params name) (.str name (s.toks+1)) w=j;have p:j (ace [] 0)=ace (putL name (acC c.w.params name) (.str name (s.toks+1)) w []) (putN name [] 0):=by rw[←hG];exact amt _ _ _ _ _ _
  have T:(((s.heap.push ah5).update (σ.μ k) λo=>{o with dict:=Y s.heap.objs.size}).update s.heap.objs.size j).get? (σ.μ k)=Y (fY C (Y s.heap.objs.size) t):=by
   refine(ak6 _ _ _ _ N).trans ?_;exact akg _ (VX _ g) rfl
  have L:((s.heap.push ah5).update (σ.μ k) λo=>{o with dict:=Y s.heap.objs.size}).get? s.heap.objs.size=Y (ace [] 0) :=
   (ak6 _ _ _ _ (acb N)).trans (ao4 rfl rfl)
  have gd:(((s.heap.push ah5).update (σ.μ k) λo=>{o with dict:=Y s.heap.objs.size}).update s.heap.objs.size j).get? s.heap.objs.size=Y (ace (putL name (acC c.w.params name) (.str name (s.toks+1)) w []) (putN name [] 0)):=by
   rw[←p];exact akg _ L (by rw[p];rfl)
  have E:∀b o,b≠σ.μ k->s.heap.get? b=Y o->(((s.heap.push ah5).update (σ.μ k) λo=>{o with dict:=Y s.heap.objs.size}).update s.heap.objs.size j).get? b=Y o:=λb o nb B =>
   (ak6 _ _ _ _ (abv (WK B))).trans ((ak6 _ _ _ _ nb).trans (VX _ B))
  have go:=Go.putD (m:=.exc C (cC name y [])) i.g e (VJ _) E;have ok:Ok c.w.params (σ.putD k (.exc C (cC name y [])) s.heap.objs.size) ((σ.putD k (.exc C (cC name y [])) s.heap.objs.size).V f.pv) (((s.heap.push ah5).update (σ.μ k) λo=>{o with dict:=Y s.heap.objs.size}).update s.heap.objs.size j) k (.exc C (cC name y [])):=by
   refine⟨?_,t,Y s.heap.objs.size,T,?_,_,_,gd,cD.put (ry.go go) .nil⟩
   .show(if σ.μ k=s.heap.objs.size then _ else σ.σ (σ.μ k))=_;rw[VP N];exact e
   .exact VY rfl
  have G:=i.g.putD M e (VJ _) E ⟨_,T⟩ ⟨_,gd⟩ ok;refine⟨σ.putD k (.exc C (cC name y [])) s.heap.objs.size,(i.move G go λb hb o B=>⟨o,E b o (λz=>by
   have:=(i.g.dm b (i.own b hb)).1;rw[z,e]at this;exact gJ this) B,rfl⟩).tok _,aQ.putD e (VJ _) E,h _ rfl⟩
end
section
variable{xp:XP}{C:VI}{bmB:List VD}{B newId initId:String}
section
variable{M:am8}{A:af2}{E:VD->VE->Prop}{h:WA}{g:Array anr}{d:aof}{t:Nat}{os:acH}
theorem aiP(F:alT B newId initId bmB)(m:xp.bm.contains (.type B)=W){P:Unit->VE->Prop}(l:h.get? C=Y (xp.o C))(he:h.get? e=Y oe)(f:oe.cls = .ref C)(hq:P () ⟨h,g,d,t,os⟩): wpAny M A (alG initId ⟨.ref e::rest,[]⟩) P E ⟨h,g,d,t,os⟩:=by
 have j:(acm C::xp.bm).contains (.type B)=W:=by rw[akh,m,alx]
 have i:=F.noStar;unfold alG;rw[F.initKind,F.initSplit,F.initRow];dsimp only
 repeat (first|(with_reducible refine wpAny_loadPart_at he ?_;rw[f])|with_reducible refine wpAny_loadPart_at l ?_|(with_reducible refine wpAny_isSubtype_exc l ?_;rw[j])|wp_step)
 refine wpAny_onRaise ?_;rw[show ∀(a b:String) (n:Nat),Bind.check ⟨.positional, "*",B,.self,[⟨"args",.varPos,UA⟩]⟩ a b n (List.map (λx=>x.fst) ({ pos:=acm e::rest}:Args).kw)=pure () from
  λa b n=>check_star_args _ _ _ _ _ _]
 exact wpAny_pure hq
end
variable{prog:akH}{w:afJ}{A:af2}{R:alI->VE->Prop}{h:WA}{g:Array anr}{d:aof}{t:Nat}{os:acH}
theorem aiR(F:alT B newId initId bmB)(a:xp.bm.contains (.type B)=W)(hrest:rest.length<=WI)(b:h.get? C=Y (xp.o C))(he:h.get? e=Y (fY C d0 t0))(hq:R (.ok (.ret .none)) ⟨(h.push {cls:=.type "tuple",data:=.seq rest.toArray}).update e (aih (·.setIfInBounds 0 (.ref h.objs.size))),g,d,t,os⟩): aky (VL prog w) A (.call (.builtin initId) ⟨.ref e::rest,[]⟩) R ⟨h,g,d,t,os⟩:=by
 refine amy F.init.plain F.initEntry (aiP F a b he rfl ?_);have f:(h.push { cls:=.type "tuple",data:=.seq rest.toArray}).get? e=Y (fY C d0 t0):=VX _ he
 wp_walk
 exact hq
end
section
variable{c:GC}{n:Nat}{f:Fc}{l:Lc}{σ aje:Sg}{s s':VE}{Q:QV}{X:QX}
theorem Wg{Q:VD->List O->Prop}(i:alC c.K (.ref C) "__getattribute__" = Y (Y (.builtin "type.__getattribute__")))(j:anh c.K C mc=W)(e:ak9 c.K (.ref C) mc name=Y (.val (.ref a)))(h:Q (.ref a) []):tC c f name (.gl C) l σ Q:=λ{v s P E p} b r m=>by
 refine r.yy ?_;exact method_cls (ia b.g) i (cls_value (ia b.g) j e rfl (m _ _ _ (s.toks+1) h .nil))
theorem Wk{T id:String}{name:Str}{Q:VD->List O->Prop}(m:an6 (.type T)=pure (.type "type"))(j:Manifest.isStub T=UA)(e:ak9 c.K (.type T) (.type "type") name=Y (.val (.builtin id)))(hh:handedIn (.builtin id)=W)(h:Q (.builtin id) []):tC c f name (.ty T) l σ Q:=λ{v s P E x} i r p=>by
 refine r.Um ?_;have X:=ia i.g;have b:amg (VL c.prog c.w) s.heap (apA (.type T)) Sa:=aqp (by unfold apA;dsimp only;rw[j];rfl);have L0:amg (VL c.prog c.w) s.heap (an6 (.type T)) (.type "type"):=aqp m;have a:aga c.K (.type "type") "__getattribute__" = Y (Y (.builtin "type.__getattribute__")):=type_tga;unfold aqh specialOf;refine wpAny_bind (wpAny_bind (L0.here ((alS X a).here ?_)));dsimp only;rw[VY canon_tga];refine wpAny_bind (WD (Q:=λv=>P (v,[])) (E:=E) ?_ (λ_ _ z=>wpAny_pure z) λ_ _ z=>z);refine cls_open X b L0 a (looks_hook X (r:=Sa) (by rfl)) (by show subIn c.K _ _=_;rfl) e
  (wpAny_pure (by show wpAny _ _ (handedOut (.builtin id)) _ _ _;rw[handedOut_of hh];exact wpAny_pure (p _ _ _ (s.toks+1) h .nil)))
theorem U5(M:tq c C fI)(w:σ.H[k]?=Y (.exc C fs))(hz:xs.length<=100)(h:∀E:Sg,E.H=σ.H.set k (.exc C fs)->Q .none E):dX c f (.builtin "Exception.__init__") (.ref k::xs) l σ Q X:=λvs s p r=>by
 refine mG r.cons_inv λv0 us N a r2=>?_;refine a9 a.nN λS lt=>?_;subst N S;clear r
 rename bg _ _ _ _=>r
 refine dH (p.g.objs k _ w) λe t dd g D=>?_;have sl:WI=16777216:=by decide
 refine Dd M.at_ λxp hC bn b1 b2 b3 b4=>?_;have j:=p.g.stays _ _ hC;obtain⟨b,gg,d,tt,os⟩:=s;refine anc (aiR anf b1 (by rw[r.length,sl];lia) j g ?_);have xs':σ.μ k≠b.objs.size:=abv (WK g);have z:=p.push { cls:=.type "tuple",data:=.seq us.toArray};have S1:aQ f.P f.pv σ b σ (b.push { cls:=.type "tuple",data:=.seq us.toArray}):=aQ.push _ _;refine dH (z.g.objs k _ w) λe' t' dd' T x=>?_;have i:=amF (b.push { cls:=.type "tuple",data:=.seq us.toArray}) (σ.μ k) (aih (·.setIfInBounds 0 (.ref b.objs.size)));have A:((b.push { cls:=.type "tuple",data:=.seq us.toArray}).update (σ.μ k) (aih (·.setIfInBounds 0 (.ref b.objs.size)))).get? (σ.μ k)=Y (fY C dd' b.objs.size):=akg _ T rfl;have B:σ.σ (σ.μ k)≠Sa:=by rw[e];simp
 have go:Go (σ.V f.pv) (b.push { cls:=.type "tuple",data:=.seq us.toArray}) (σ.V f.pv) ((b.push { cls:=.type "tuple",data:=.seq us.toArray}).update (σ.μ k) (aih (·.setIfInBounds 0 (.ref b.objs.size)))):=Go.sameBut i (.inl B);have G:xk σ (σ.V f.pv) ((b.push { cls:=.type "tuple",data:=.seq us.toArray}).update (σ.μ k) (aih (·.setIfInBounds 0 (.ref b.objs.size)))) k fs dd':=by
  induction dd' using cO with
  |none=>exact x
  |some L=>refine dH x λe2 es n Z r=>?_;exact⟨e2,es,n,(i.2 L λy=>by rw[←y,e2]at e;cases e).trans Z,r.go go⟩
 have I:=z.put (m:=.exc C fs) w i e ⟨e,b.objs.size,dd',A,G⟩ ⟨_,A⟩;exact⟨.none,σ.put k (.exc C fs),.none,I,S1.trans (aQ.put i B),h _ rfl⟩
end
section
variable{M:am8}{A:af2}{E:VD->VE->Prop}{env:Env}
def XR(h:WA)(C:VI):Prop:=∃a:XP,h.get? C=Y (a.o C)/\a.bm.contains (.type "BaseException")=W
theorem x_raise{P:aod->VE->Prop}(hh:A.handled=Sa)(h:wpAny M A x (λv s₁=>∃C e t l,v = .ref e/\XR s₁.heap C/\s₁.heap.get? e=Y (fY C l t)/\E (.ref e) s₁) E s): wpAny M A (aqi env (Y x) Sa) P E s:=by
 unfold aqi;refine wpAny_bind (WD h (λv s₁ i=>?_) λ_ _ x=>x);obtain⟨C,e,t,l,f,b,he,p⟩:=i;subst f;refine aU b λw m a=>?_;have j:(acm C::w.bm).contains (.type "BaseException")=W:=by rw[akh,a,alx]
 obtain⟨y,g,d,tk,os⟩:=s₁
 repeat (first|with_reducible refine wpAny_loadPart_at he ?_|with_reducible refine wpAny_loadPart_at m ?_|(with_reducible refine wpAny_isSubtype_exc m ?_;rw[j])|wp_step)
 exact wpAny_raiseNew_none hh p
variable{c:GC}{n:Nat}{f:Fc}{l:Lc}{σ:Sg}{aje:Sg}{s:VE}{s':VE}{Q:QF}{X:Lc->QX}
theorem X2(hq:c.quiet=W)(h:bG c f e l σ (λx b=>∃k C fs w,x = .ref k/\b.H[k]?=Y (.exc C fs)/\tq c C w/\fs≠[]/\∀z:Sg,z.H=b.H.set k .dead->X l ⟨C,fs⟩ z) (X l)):dZ c f (al9 (.Raise (Y e) Sa pos) f.env) l σ Q X:=λs y=>by
 have T:al9 (.Raise (Y e) Sa pos) f.env=(do standAt pos;aqi f.env (Y (do let v ←eval e f.env;standAt pos;pure v)) Sa):=rfl;rw[T];refine wpAny_bind (akr (x_raise (y.g.hand hq)
  (wpAny_bind (cH (h s y) (λv s₁ x b r a i q=>wpAny_bind (akr (wpAny_pure ?_))) λ_ _ p=>p.up))))
 obtain⟨k,C,fs,w,I,S,B,nf,q⟩:=(q);subst I;refine a9 r.nN λG lt=>?_;subst G;refine dH (a.g.objs k _ S) λe1 t j g D=>?_;refine Dd B.at_ λxp N bn b1 b2 b3 b4=>?_;refine⟨C,_,t,j,rfl,⟨_,a.g.stays _ _ N,b2⟩,g,⟨C,fs⟩,l,b.free k,?_,a.free k,i.trans (aQ.free k),q _ rfl⟩;induction j using cO with
 |none=>exact(nf D).elim
 |some d =>
  refine dH D λe2 es m L r=>?_;have Z:=yu a.g e1;have n2:=yu a.g e2;exact⟨_,d,_,_,es,m,rfl,g,rfl,rfl,rfl,(a.g.own (b.μ k) (by rw[e1];simp)).1,L,Z,n2,r.go Go.free,.inl rfl⟩
end
section
variable{M:am8}{A:af2}{E:VD->VE->Prop}{h:WA}{g:Array anr}{d:aof}{t:Nat}{os:acH}
variable{xp xp2:XP}{C D:VI}
theorem aiS{P:Bool->VE->Prop}(l:h.get? C=Y (xp.o C))(j:h.get? D=Y (xp2.o D))(he:h.get? e=Y oe)(b:oe.cls = .ref C)(a:xp2.bm.contains (.type "BaseException")=W)(hq:P ((acm C::xp.bm).contains (.ref D)) ⟨h,g,d,t,os⟩):wpAny M A (excMatches (.ref e) (.ref D)) P E ⟨h,g,d,t,os⟩:=by
 have i:(acm D::xp2.bm).contains (.type "BaseException")=W:=by rw[akh,a,alx]
 have f:=tc_notTuple;unfold excMatches;cases hb:(acm C::xp.bm).contains (.ref D)<;>rw[hb]at hq <;>
  (repeat (first|(with_reducible refine wpAny_loadPart_at he ?_;rw[b])|with_reducible refine wpAny_loadPart_at j ?_|(with_reducible refine wpAny_isSubtype_exc j ?_;rw[i])|(with_reducible refine wpAny_isSubtype_exc l ?_;rw[hb])|wp_step)) <;>
  exact hq
end
noncomputable def GC.loud(c:GC):GC:={c with quiet:=UA}
noncomputable def Fc.mark(f:Fc)(e:VD):Fc:={f with A:=f.A.mark (Y e)}
theorem R.mark(a:R c f l σ s)(e:VD):R c.loud (f.mark e) l σ s :=⟨⟨a.g.stays,a.g.frames,a.g.stack,(λq=>aml q),a.g.depth,a.g.units,a.g.fy,a.g.dm,a.g.objs,a.g.own,a.g.gens,a.g.os⟩,a.ns,a.vars,a.iB,a.own,a.nd,a.kind,a.glob,a.lR,a.top⟩
theorem R.unmark(a:R c f l σ s)(h:R c.loud (f.mark e) l' aje s'):R c f l' aje s' :=⟨⟨h.g.stays,h.g.frames,a.g.stack,a.g.hand,a.g.depth,a.g.units,h.g.fy,h.g.dm,h.g.objs,h.g.own,h.g.gens,h.g.os⟩,h.ns,h.vars,h.iB,h.own,h.nd,h.kind,h.glob,h.lR,h.top⟩
section
variable{c:GC}{f:Fc}{l:Lc}{σ aje:Sg}{s s':VE}{Q:QV}{X:QX}
theorem Xq(b:σ.H[k]?=Y (.bu fs))(h:Q (.bool (!(fs.lookup x).isSome)) σ):bV c f (VV .NotIn) (.str x) (.ref k) l σ Q X:=λv w s a r p=>by
 refine r.i7 λ_=>p.i5 λ_=>?_;refine zx (a.g.objs k _ b) λe es n g r j _=>?_;have hm:=IW (P:=c.prog) g r j;have m:(σ.μ k == aic)=UA:=by
  rw[VQ];intro q;have z:=(a.g.own (σ.μ k) (by rw[e];simp)).1;rw[q]at z;exact c.mods z
 refine wpAny_notIn_of (ala _ _ x _) m hm ?_;cases q:fs.lookup x with
 |none=>rw[yr _ _ _ (r.miss x q)];exact dy a (.bool _) (by rw[q]at h;exact h)
 |some y=>refine aU (r.find x q) λu i _=>?_;rw[yr _ _ _ i];exact dy a (.bool _) (by rw[q]at h;exact h)
variable{tg:VC}
def Ao(c:GC)(it:VI)(N:Int)(i:Nat)(σ:Sg)(h:WA):Prop:=σ.σ it=Sa/\c.base.get? it=Sa/\anU h it i (N - i) 1
theorem Ao.mr(x:Ao c it N i σ h):∀b∈[it],σ.σ b=Sa/\c.base.get? b=Sa/\∃o,h.get? b=Y o/\iz o:=λb q=>by
 rw[akR.mp q];exact⟨x.1,x.2.1,_,x.2.2,⟨_,rfl⟩,_,rfl,by decide⟩
theorem Nr(hq:c.quiet=W):nU c f tg it [it] (Ao c it N) (λi x _=>(i:Int)< N/\x = .int i) (λi _=>N<=(i:Int)):=by
 refine⟨λst=>st.mr,λ{i l σ s aje h'} m st S _=>?_,λ{i l σ s x P E} m st w k=>?_,λ{i l σ s P E} m st C k=>?_⟩
 .refine fw st λa b e=>?_;refine a9 (CL (i:=0) m e ⟨⟨_,rfl⟩,_,rfl,by decide⟩ a S) λx y=>?_;exact⟨x,b,y⟩
 .refine a9 w λlt j=>?_;subst j;refine wpAny_pyNext_range_item st.2.2 (by lia) λh' hit z=>?_;have h:anU h' it ((i+1:Nat):Int) (N - ((i+1:Nat):Int)) 1:=by
   have e1:((i+1:Nat):Int)=(i:Int)+1:=rfl;have e2:N - ((i+1:Nat):Int)=N - (i:Int) - 1:=by rw[Int.sub_sub];rfl
   rw[e2,e1];exact hit
  refine k _ h' (s.toks+1) λB A hh=>OE (s:={s with heap:=h',toks:=s.toks+1}) h rfl rfl (by decide) (hh h' (DM z) ⟨st.1,st.2.1,h⟩ (.int _ _))
 .exact wpAny_pyNext_range_end (m.g.hand hq) st.2.2 (by lia) λh' p=>k h' s.toks (N4 p)
theorem aeB{P:VD->VE->Prop}{E:VD->VE->Prop}(hq:c.quiet=W)(e:agb 0 n 1=W)(a:R c f l σ s)(g:IsRange s.heap r 0 n 1 t u v)(h:∀it fp St h' t,nU c f tg it fp St (λi x _=>(i:Int)< VS 0 n 1/\x = .int i) (λi _=>VS 0 n 1<=(i:Int))->(∀b∈fp,s.heap.get? b=Sa)->s.heap.StaysIn h'->St 0 σ h'->P (.ref it) {s with heap:=h',toks:=t}):wpAny (VL c.prog c.w) f.A (an2 (.ref r)) P E s:=by
 refine aoB g e ?_;refine h _ _ _ _ s.toks (Nr (it:=s.heap.objs.size) (N:=VS 0 n 1) hq) uh (gu _ _) ⟨a.g.qd (VJ _),a.g.mV (VJ _),?_⟩;have:=WQ s.heap (o:={ cls:=.type "range_iterator",data:=.fields #[rawInt 0,rawInt (VS 0 n 1),rawInt 1]}) rfl;unfold anU;rw[show VS 0 n 1 - ((0:Nat):Int)=VS 0 n 1 from aqy _];exact this
theorem EU{P:VD->VE->Prop}(z:dW c fv)(y:noStar (e::r)=W)(h:i8 c f (e::r) l σ (λxs a=>∀vs s₁,R c f l a s₁->aQ f.P f.pv σ s.heap a s₁.heap->bg (a.V f.pv) s₁.heap vs xs->wpAny (VL c.prog c.w) f.A (call fv vs) P (dI c f σ s λl' x aje=>l'=l/\X x aje) s₁) X)(m:R c f l σ s): wpAny (VL c.prog c.w) f.A (callWith pos fv [] (amr pos (alk (e::r) f.env)) []) P (dI c f σ s λl' x aje=>l'=l/\X x aje) s:=by
 rw[AS pos f.env y];refine apj (P:=λh=>c.K.In h) (by rw[Lh];rfl) z ?_;exact evalArgs_plain (wj (Ei (Q:=λxs a=>∀vs s₁,R c f l a s₁->aQ f.P f.pv σ s.heap a s₁.heap->bg (a.V f.pv) s₁.heap vs xs->wpAny (VL c.prog c.w) f.A (call fv vs) P (dI c f σ s λl' x aje=>l'=l/\X x aje) s₁) h s m) (λvs s₁ xs a r b i j=>⟨ia b.g,j vs s₁ b i r⟩) λ_ _ p=>p)
theorem UD{Z:Int->Sg->Prop}{K:List O->Sg->Prop}(h:bG c f e l σ (λz a=>∃n,z = .int n/\agb 0 n 1=W/\Z n a) X)(k:∀a n,agb 0 n 1=W->Z n a->K [.int n] a):i8 c f [e] l σ K X:=jW.mono h (λx b i=>iY i λn e sm q=>by subst e;exact k b n sm q) λ_ _ z=>z
theorem V1{M:(Nat->bp)->(Nat->List MO->Prop)->Sg->Prop}(hq:c.quiet=W)(Z:noStar [e]=W)(h:bG c f (.Name x np) l σ (λy A=>y = .ty "range" /\ bG c f e l A (λz m=>∃n,z = .int n/\agb 0 n 1=W/\M (λi x _=>(i:Int)< VS 0 n 1/\x = .int i) (λi _=>VS 0 n 1<=(i:Int)) m) X) X): AD c f tg (.Call (.Name x np) [e] [] pos) l σ M X:=λs T =>
 ama (cH (h s T) (λv s₁ y A r E B ⟨S,G⟩=>by
  subst S;cases r.JZ;refine WD (EU (r:=[]) (dW.ty "range") Z (s:=s₁) (UD G λm n sm q vs j I H rl=>?_) E) (λ_ _ p=>p) λ_ _ p=>p.after B;refine aU rl.qg λw L a=>?_;subst L;refine VF a.int_inv λtn L=>?_;subst L
  .refine call_range_1 ?_;have st:j.heap.StaysIn (j.heap.push { cls:=.type "range",data:=.fields #[.int 0 j.toks,.int n tn,.int 1 (j.toks+1)]}):=gu _ _;have N:=(I.grow st).tok (j.toks+1+1);refine aeB (tg:=tg) hq sm N (aqN _ _ _ _ _ _ _) λit fp St h' t D fr C s0=>?_;have S3:aQ f.P f.pv σ s.heap m _:=(B.trans H).trans (aQ.grow st);exact⟨it,fp,St,_,_,m,rfl,(N.grow C).tok t,S3.trans (aQ.grow C),D,λb z=>lg.of S3 (fr b z),s0,q⟩) λ_ _ p=>p)
def D6(c:GC)(k:Nat)(a it e:VI)(i:Nat)(σ:Sg)(h:WA):Prop :=(σ.σ e=Sa/\c.base.get? e=Sa/\∃b,IsEnum h e it i b)/\iL c it "list_iterator" #[.ref a,.int i 0] σ h/\k < σ.H.length/\σ.μ k=a
theorem D6.mr(x:D6 c k a it e i σ h):∀b∈[e,it],σ.σ b=Sa/\c.base.get? b=Sa/\∃o,h.get? b=Y o/\iz o:=λb q=>by
 rcases WM.mp q with rfl|q
 .refine sZ x.1 λm x2 j x3=>?_;exact⟨m,x2,_,x3,⟨_,rfl⟩,_,rfl,by decide⟩
 .exact x.2.1.mr (by decide) b q
theorem abJ{x1}(hq:c.quiet=W)(ne:e≠it):nU c f (.Tuple elts x1 pos) e [e,it] (D6 c k a it e) (λi x H=>∃xs y,H[k]?=Y (.lst xs)/\xs[i]?=Y y/\x = .tup [.int i,y]) (λi H=>∃xs,H[k]?=Y (.lst xs)/\xs[i]?=Sa):=by
 refine⟨λst=>st.mr,λ{i l σ s aje h'} m st S _=>?_,λ{i l σ s x P E} m st gx Z=>?_,λ{i l σ s P E} m st sp Z=>?_⟩
 .refine hX st λh G lt A=>?_;refine sZ h λC b1 p e1=>?_;refine a9 (CL (i:=0) m e1 ⟨⟨_,rfl⟩,_,rfl,by decide⟩ C S) λx y=>?_;exact⟨⟨x,b1,p,y⟩,G.keep (by decide) m S,VT lt S.n,(S.mu k lt).trans A⟩
 .refine mG gx λxs y M D B=>?_;subst B;refine hX (id st) λh j lt A=>?_;refine sZ h λC b1 p e1=>?_;refine jO j λi1 G o T d1 I=>?_;refine dH (m.g.objs k _ M) λ_ vs n g r=>?_;rw[A]at g;refine aU (r.get D) λv hv rv=>?_;refine anV (i:=i) (items:=vs.toArray) e1 ⟨o,T,d1,I⟩ ⟨_,g,rfl,_,rfl⟩ (by simpa using hv) ne λh' eo hit ht hz N=>?_;have io:∀b∈[e,it],∃o,s.heap.get? b=Y o/\iz o:=λb q=>(st.mr b q).2.2;have tne:s.heap.objs.size≠e:=aov (WK e1);refine Z _ h' (s.toks+1) λP2 E2 hh=>amZ (s:={s with heap:=h',toks:=s.toks+1}) eo λh2 L sb=>?_;have keep:∀b o,b∉[e,it]->s.heap.get? b=Y o->h2.get? b=Y o:=λb o q z=>by
   have q1:b≠e:=λw=>q (by rw[w];simp);have q2:b≠it:=λw=>q (by rw[w];simp);exact(sb.2 b q1).trans (N b o q1 q2 z)
  refine iY hit λoi j1 j2 j3=>?_;refine hh h2 keep ⟨⟨C,b1,_,L⟩,⟨i1,G,oi,(sb.2 it (acb ne)).trans j1,j2,j3⟩,lt,A⟩ ?_;exact .tup (vs:=[_,_]) (n:=0) (m.g.wt (VJ _)) ((sb.2 _ tne).trans ht) (.cons (.int _ _) (.cons (rv.go (Go.fp io keep)) .nil))
 .refine aU sp λxs M D=>?_;refine hX (id st) λh j lt A=>?_;refine sZ h λC b1 p e1=>?_;refine jO j λi1 G o T d1 I=>?_;refine dH (m.g.objs k _ M) λ_ vs n g r=>?_;rw[A]at g;refine an9 (i:=i) (items:=vs.toArray) (m.g.hand hq) e1 ⟨o,T,d1,I⟩ ⟨_,g,rfl,_,rfl⟩ (by
   rw[aat]at D;simp;rw[r.length];exact D) λh' eb=>Z h' s.toks λb o q z=>eb b o (λw=>q (by rw[w];simp)) z
theorem Xg(h:Q (.bool (!decide (b.cps.toList < a.cps.toList))) σ):bV c f (VV .LtE) (.str a) (.str b) l σ Q X:=λv w s i r j=>by
 refine VF r.str_inv λt e=>?_;subst e;refine VF j.str_inv λu e=>?_;subst e;exact PySem.P.le_str ⟨_,σ,.bool _,i,.refl,h⟩
theorem Vm(i:a.natAbs.log2 < 1920)(h:Q (.str (ano (toString a))) σ):dX c f (.type "str") [.int a] l σ Q X:=λvs s e r=>by
 refine aU r.qg λv b p=>?_;subst b;refine VF p.int_inv λt b=>?_;subst b;exact PySem.P.str_of_int i (dy e (.str _ _) h)
theorem U8(i:aoa x=Y n)(e:x.length<=640)(h:Q (.int n) σ):dX c f (.type "int") [.str x] l σ Q X:=λvs s b r=>by
 refine aU r.qg λv a p=>?_;subst a;refine VF p.str_inv λt a=>?_;subst a;exact PySem.W.KIN.call_text i e (dy b (.int _ _) h)
theorem Vo(hx:listOf σ.H x=Y xs)(j:xs.length<=WI)(h:Q (.tup xs) σ):dX c f (.type "tuple") [x] l σ Q X:=λvs s i r=>by
 refine aU r.qg λv b p=>?_;subst b;refine gS (oG i p hx) λa us n b g rs=>?_;subst b;refine PySem.call_tuple_list ⟨_,g,rfl,_,rfl⟩ (λh' k=>?_) (by rw[VN,rs.length];exact j);have e:R c f l σ {s with heap:=h'}:=i.grow k;exact⟨.tup xs,σ,JW e (rs.go (Go.stays k)) _,e.push _,(aQ.grow k).trans (aQ.push _ _),h⟩
theorem Vg(hx:listOf σ.H x=some xs)(A:xs.length<=WI)(h:∀m:Sg,m.H=σ.H++[.lst xs]->Q (.ref σ.H.length) m):dX c f (.type "list") [x] l σ Q X:=λvs s i r=>by
 refine aU r.qg λv b p=>?_;subst b;refine gS (oG i p hx) λa us n b g rs=>?_;subst b;refine PySem.call_list_seq a (.inl rfl) g rfl rfl (λh' w k e=>?_) (by rw[VN,rs.length];exact A);have st:s.heap.StaysIn h':=k;have j:(σ.add s.heap.objs.size (.lst xs) none).μ σ.H.length=s.heap.objs.size:=VY rfl;have z:∀y,(none:Option VI)=some y->s.heap.objs.size<=y/\∃o,h'.get? y=some o:=λy e=>by exact bN e
 refine⟨.ref σ.H.length,σ.add s.heap.objs.size (.lst xs) none,Rel.added,i.add st (VJ _) ⟨_,e⟩ z ⟨?_,us,w,?_,?_⟩,aQ.add i.g st (VJ _) λ_ e=>by exact bN e,h _ rfl⟩
 .rw[j];exact VY rfl
 .rw[j];exact e
 .exact rs.go (Go.add i.g st (VJ _) λ_ e=>by exact bN e)
theorem Vi(e:abH x y 0 x.length 1=i::rest)(h:Q (.int i) σ):dX c f (.builtin "str.index") [.str x,.str y] l σ Q X:=λvs s b r=>by
 refine mG r.xb λv w a p j=>?_;subst a;refine VF p.str_inv λt a=>?_;subst a;refine VF j.str_inv λu a=>?_;subst a;exact PySem.SC.index e (dy b (.int _ _) h)
theorem Vj(e:x.length<=5592405)(h:Q (.str (apm x)) σ):dX c f (.builtin "str.lower") [.str x] l σ Q X:=λvs s b r=>by
 refine aU r.qg λv a p=>?_;subst a;refine VF p.str_inv λt a=>?_;subst a;exact aqO e λ_=>dy b (.str _ _) h
theorem Vl(h:Q (.bool (af6 x y)) σ):dX c f (.builtin "str.startswith") [.str x,.str y] l σ Q X:=λvs s b r=>by
 refine mG r.xb λv w a p e=>?_;subst a;refine VF p.str_inv λt a=>?_;subst a;refine VF e.str_inv λu a=>?_;subst a;exact PySem.SC.startswith ⟨_,σ,.bool _,b,.refl,h⟩
theorem SQ:∀(tk:Nat) (xs:List Str),bg V h (strsFrom tk xs) (xs.map .str)
 |_,[]=>.nil
 |tk,x::r=>.cons (.str _ _) (SQ (tk+1) r)
theorem I5(i:R c f l σ s)(r:bg (σ.V f.pv) s.heap vs xs)(h:Q (.lst xs) σ): iN c f l σ s Q (.ref s.heap.objs.size) {s with heap:=s.heap.push {cls:=.type "list",data:=.seq vs.toArray},toks:=t}:=by
 obtain⟨x,aje,a,b,d,e⟩:=zl i r h;exact⟨x,aje,a,b.tok t,d,e⟩
theorem Vk(j:(y.length == 0)=UA)(m:x.length<=WI)(i:(alU x (abH x y 0 x.length (x.length+1)) y.length).length<=WI)(h:Q (.lst ((ant x y).map .str)) σ):dX c f (.builtin "str.split") [.str x,.str y] l σ Q X:=λvs s e r=>by
 refine mG r.xb λv w a p z=>?_;subst a;refine VF p.str_inv λt a=>?_;subst a;refine VF z.str_inv λu a=>?_;subst a;unfold ant at h;cases h1:(decide (x.length < y.length)||decide (aoo x < aoo y))
 .rw[VP (ne_true_of_eq_false h1)]at h;cases b:(abH x y 0 x.length (x.length+1)).isEmpty
  .rw[VP (ne_true_of_eq_false b)]at h;exact akY alp (amu _ _ _) al7 (alV _ _) (meets_str_split_sep x y t u h1 j b m i) (I5 e (SQ _ _) h)
  .rw[VY b]at h;exact akY alp (amu _ _ _) al7 (alV _ _) (meets_str_split_not_found x y t u h1 j b) (I5 (vs:=[.str x t]) e (.cons (.str _ _) .nil) h)
 .rw[VY h1]at h;exact akY alp (amu _ _ _) al7 (alV _ _) (meets_str_split_cannot_occur x y t u h1) (I5 (vs:=[.str x t]) e (.cons (.str _ _) .nil) h)
noncomputable def ug(d:PyData):List PyData->Option Nat
 | []=>Sa
 |x::r=>if aaI x d then Y 0 else(ug d r).map (· + 1)
theorem N8:∀{ds:List PyData}{j:Nat},ug d ds=Y j->(∃x,ds[j]?=Y x/\aaI x d=W)/\∀m x,m < j->ds[m]?=Y x->aaI x d=UA:=by
 intro ds;induction ds with
 |nil =>
  exact@λ_ e=>by exact bN e
 |cons x r A =>
  exact@λj e=>by
   unfold ug at e;by_cases q:aaI x d=W
   .rw[VY q]at e;have B:=UB e;clear e;subst B;exact⟨⟨x,rfl,q⟩,λm y lt=>absurd lt (amn _)⟩
   .rw[VP q]at e;refine aU (alo.mp e) λi hi p=>?_;subst p;refine a9 (A hi) λh k=>?_;refine aU h λy a b=>?_;refine⟨⟨y,by simpa using a,b⟩,λm z lt w=>?_⟩;induction m using cN with
    |zero=>simp at w;subst w;simpa using q
    |succ m=>exact k m z (by lia) (by simpa using w)
theorem DF{vs:List VD}:∀{ds:List PyData}{as:List VI},afE ds=W->apy h vs ds as->∀(j:Nat) {v:VD},vs[j]?=Y v->∃x,ds[j]?=Y x/\aoC h v=x:=by
 induction vs with
 |nil=>exactλ_ _ j v e=>nK e
 |cons a vs i =>
  intro ds as b r j v e;cases r with
  |cons m p =>
   refine bt (by simpa only[afE]using b) λh1 h2=>?_;induction j using cN with
   |zero=>exact⟨_,rfl,by rw[←UB e];exact SeqAt.readOf_eq h1 m⟩
   |succ j=>exact i h2 p j e
theorem readsAll_len{vs:List VD}:∀{ds:List PyData}{as:List VI},apy h vs ds as->vs.length=ds.length:=by
 induction vs with
 |nil=>intro ds as r;cases r;rfl
 |cons a vs b=>intro ds as r;cases r with|cons _ r=>exact congrArg (· + 1) (b r)
theorem Vf(n m:Nat)(hx:toPy σ.H n x=Y (.list ds))(hy:toPy σ.H m y=Y d)(M:afE ds=W)(l2:d.canLay0=W)(dp:d.depth<=60)(hz:ds.length < 2 ^ 60)(e:ug d ds=Y j)(h:Q (.int j) σ): dX c f (.builtin "list.index") [x,y] l σ Q X:=λvs s B r=>by
 refine mG r.xb λv w G p p'=>?_;subst G;refine VF (jQ B n hx p) λas ra=>?_;refine VF (jQ B m hy p') λbs rb=>?_;have hu:=B.units;cases ra with
 | @list a ob b nn _ T h1 h2 h3 h4 =>
  obtain⟨cls,Z,dt,sl⟩:=ob;dsimp only at h2 h3;subst h2 h3;refine a9 (N8 e) λE k=>?_;refine aU E λz S z2=>?_;have ln:=readsAll_len h4;have lt:j < ds.length:=(WC.mp S).1;have C:j < b.size:=by rw[←aop,ln];exact lt
  have L:f.A.units+1+min (amz ds) d.depth < cLine:=wk B dp;refine akY anI ⟨_,h1,rfl⟩ PySem.F.entry_list_index (PySem.F.args_list_index_2 _ _)
   (SeqAt.list_indexAt a b nn Z sl w (λy=>aaI (aoC s.heap y) d) j C (by lia) ?_ ?_) ⟨h1,apB h4 rb M l2 L,dy B (.int _ _) h⟩
  .refine aU (DF M h4 j (v:=b[j]) (by simp[C])) λq D N=>?_;rw[S]at D;have zq:=UB D;clear D;subst zq;rw[N];exact z2
  .intro i hi I;refine aU (DF M h4 i (v:=b[i]) (by simp[hi])) λq D N=>?_;rw[N];exact k i q I D
end
open PySem.AutoSeq1 (wpAny_loadPart')
theorem aiu(l:VI)(items:Array VD)(n:Nat)(x:VD)(e:VD->Bool)(j:Nat)(D:j < items.size)(hit:e items[j]=W)(E:∀m (hm:m < items.size),m < j->e items[m]=UA): Meets (Builtin.«tuple.index» ⟨[.ref l,x],[]⟩) (λA R s=>s.heap.get? l=Y {cls:=.type "tuple",dict:=Sa,data:=.seq items n,slots:=#[]}/\(∀y,y∈items->SeqAt.EqAt A.in1 s y x (e y))/\R (.ok (.ret (.int j s.toks))) {s with toks:=s.toks+1}):=by
 intro B w A R s h;obtain⟨I,g,d,tk,os⟩:=s;refine fw h λH he h=>?_;unfold Builtin.«tuple.index»;simp only[aoq]
 wp_walk using apW H,wpAny_forIn_list _ (λrest b s'=>s'=⟨I,g,d,tk,os⟩/\b=(Sa,())/\∃i,i<=j/\rest=List.range' i (items.size - i)) _
 case turn =>
  intro i rest b s' z;refine hY z λf p G a C=>?_;subst f;subst p;rw[show items.size - G=(items.size - (G+1))+1 by rw[amM,ale (ao5 (aeF a D))],List.range'_succ]at C;injection C with h1 h2
  subst h1;have lt:i < items.size:=aeF a D;rw[ana lt];dsimp only;refine wpAny_bind (he _ (Array.getElem_mem lt) B w _ _ ?_);by_cases q:i=j
  .subst q;rw[hit]
   wp_walk
   exact h
  .rw[E i lt (amT a q)]
   wp_walk
   exact⟨rfl,rfl,i+1,amT a q,h2⟩
 case fin =>
  intro b s' z;refine hY z λf p i a C=>?_;subst f;subst p;have:=congrArg List.length C;rw[List.length_range']at this;exact absurd this.symm (Nat.sub_ne_zero_of_lt (aeF a D))
 case h =>
  exact⟨rfl,rfl,0,akQ _,by simp[aqR]⟩
section
variable{c:GC}{f:Fc}{l:Lc}{σ aje:Sg}{s s':VE}{Q:QV}{X:QX}
theorem Vn(n m:Nat)(hx:eQ (toPy σ.H n) xs=Y ds)(S:toPy σ.H m y=Y d)(G:afE ds=W)(T:d.canLay0=W)(N:d.depth<=60)(e:ug d ds=Y j)(h:Q (.int j) σ): dX c f (.builtin "tuple.index") [.tup xs,y] l σ Q X:=λvs s x r=>by
 refine mG r.xb λv w b p Z=>?_;subst b;refine oR p.JV λa us nn b _ g rs=>?_;subst b;refine VF (DG (λe r=>jQ x n e r) rs hx) λas h4=>?_;refine VF (jQ x m S Z) λbs rb=>?_;have hu:=x.units;refine a9 (N8 e) λC k=>?_;refine aU C λz M z2=>?_;have ln:=readsAll_len h4;have lt:j < ds.length:=(WC.mp M).1;have I:j < us.toArray.size:=by rw[VN,ln];exact lt
 have E:f.A.units+1+min (amz ds) d.depth < cLine:=wk x N;refine akY anu ⟨_,g,rfl⟩ PySem.F.entry_tuple_index (PySem.F.args_tuple_index_2 _ _)
  (aiu a us.toArray nn w (λy=>aaI (aoC s.heap y) d) j I ?_ ?_) ⟨g,apB h4 rb G T E,dy x (.int _ _) h⟩
 .refine aU (DF G h4 j (v:=us.toArray[j]) (by simp)) λq B L=>?_;rw[M]at B;have zq:=UB B;clear B;subst zq;rw[L];exact z2
 .intro i hi D;refine aU (DF G h4 i (v:=us.toArray[i]) (by simp)) λq B L=>?_;rw[L];exact k i q D B
inductive Kx:VD->AK->Prop
 |int (i:Int) (t:Tok):Kx (.int i t) (.int i)
 |str (x:Str) (t:Tok):Kx (.str x t) (.str x)
theorem QE{K:Type} [DecidableEq K] {g:K->AK}(j:∀a b,g a=g b->a=b) (k:K) {ks:List K}:∀{vs:List VD}{xs:List O},ks.length=vs.length->iO c vs xs -> (∀y,((ks.map g).zip xs).lookup (g k)=Y y->∃v,alz (ks.zip vs) k=Y v/\pj c v y)/\(((ks.map g).zip xs).lookup (g k)=Sa->alz (ks.zip vs) k=Sa):=by
 induction ks with
 |nil=>exactλ_ _=>⟨λy e=>nK e,λ_=>rfl⟩
 |cons h ks m =>
  intro vs xs e r;cases r with
  |nil=>exact absurd e (akv _)
  | @cons v vs x xs a r =>
   have i:=m (amo e) r;rw[WH,alc,VZ,alc];by_cases q:k=h
   .subst q;have b:(g k == g k)=W:=ah6 _;rw[b];have z:alz ((k,v)::ks.zip vs) k=Y v:=by unfold alz;rw[alh (by simp)];rfl
    exact⟨λy e=>⟨v,z,UB e▸a⟩,λe=>sN e⟩
   .have b1:(g k == g h)=UA:=VQ.mpr λz=>q (j _ _ z);have b2:alz ((h,v)::ks.zip vs) k=alz (ks.zip vs) k:=by
     unfold alz;rw[ali (by simpa using acb q)]
    rw[b1,b2];exact i
noncomputable def zN:AK->AK->Bool
 | .int _,.int _=>W
 | .str _,.str _=>W
 |_,_=>UA
theorem MA{m:List (AK×O)}(D:gZ c a m)(H:∃p r,m=p::r/\zN p.1 k=W): ∃(K:Type) (_:DecidableEq K) (A:KeyKind c.prog c.w K) (E:K) (ps:List (K×VD)) (z:Nat),c.base.DictAt A a ps z/\(a == aic)=UA/\(∀V h v,Rel V h v k.av->A.is E v=W) /\ (∀y,m.lookup k=Y y->∃v,alz ps E=Y v/\pj c v y)/\(m.lookup k=Sa->alz ps E=Sa):=by
 refine oQ H λp r e B=>?_;rcases D with @⟨ks,vs,xs,z,D,G,ln,C⟩| @⟨ks,vs,xs,z,D,G,ln,C⟩
 .cases k with
  |int i=>exact⟨Int,_,_,i,_,z,D,C,λV h v r=>(by refine VF r.int_inv λt j=>?_;subst j;simp[api,aqK]),QE (g:=AK.int) (λa b q=>by cases q;rfl) i ln G⟩
  |str x =>
   have:p∈(ks.map AK.int).zip xs:=by rw[e];exact .head _
   have:=(akC (a:=p.1) (b:=p.2) this).1;refine aU (abz.mp this) λi _ q=>?_;rw[←q]at B;exact bD B
 .cases k with
  |str x=>exact⟨Str,_,_,x,_,z,D,C,λV h v r=>(by refine VF r.str_inv λt j=>?_;subst j;exact ala _ _ x t),QE (g:=AK.str) (λa b q=>by cases q;rfl) x ln G⟩
  |int i =>
   have:p∈(ks.map AK.str).zip xs:=by rw[e];exact .head _
   have:=(akC (a:=p.1) (b:=p.2) this).1;refine aU (abz.mp this) λi _ q=>?_;rw[←q]at B;exact bD B
theorem XC{b:List (AK×O)}(D:gZ c a b)(i:∃p r,b=p::r/\zN p.1 k=W)(m:b.lookup k=Y y)(h:Q y σ): bV c f (aki value slice) (.gl a) k.av l σ Q X:=λv w s e r C=>by
 have:=r.B7;subst this;obtain⟨K,_,B,H,ps,E,D,G,A,z,_⟩:=(MA D i);refine aU (z y m) λu j x=>?_;have hm:=(DictAt.stays D e.g.stays).dictOf.mapOf;exact o7 hm.typeIs am4.lookup (anj (A _ _ _ C) hm j (dy e (x.here e.g) h))
theorem WX{b:List (AK×O)}(D:gZ c a b)(j:∃p r,b=p::r/\zN p.1 k=W)(h:Q (.bool (b.lookup k).isSome) σ): bV c f (VV .In) k.av (.gl a) l σ Q X:=λv w s e r C=>by
 have:=C.B7;subst this;obtain⟨K,_,B,G,ps,E,D,i,A,x,z⟩:=(MA D j);have hm:=(DictAt.stays D e.g.stays).dictOf.mapOf;refine wpAny_in_of (A _ _ _ r) i hm ?_;cases q:b.lookup k with
 |none=>rw[z q];exact dy e (.bool _) (by rw[q]at h;exact h)
 |some y=>refine aU (x y q) λu m _=>?_;rw[m];exact dy e (.bool _) (by rw[q]at h;exact h)
theorem Wy(hx:listOf σ.H x=Y xs)(z:listOf σ.H y=Y ys)(p:xs.length≠ys.length)(h:Q (.bool UA) σ):bV c f (VV .Eq) x y l σ Q X:=λv w s i r A=>by
 refine gS (oG i r hx) λa vs n e g rs=>?_;subst e;refine gS (oG i A z) λb us m e j rt=>?_;subst e;have B:=i.units;exact SeqAt.eq_list_lengthsAt ⟨_,g,rfl,_,rfl⟩ ⟨_,j,rfl,_,rfl⟩ (by simpa[rs.length,rt.length]using p) (by lia) ⟨_,σ,.bool _,i,.refl,h⟩
theorem Xk(hx:listOf σ.H x=Y xs)(z:listOf σ.H y=Y ys)(p:xs.length≠ys.length)(h:Q (.bool W) σ):bV c f (VV .NotEq) x y l σ Q X:=λv w s i r A=>by
 refine gS (oG i r hx) λa vs n e g rs=>?_;subst e;refine gS (oG i A z) λb us m e j rt=>?_;subst e;have B:=i.units;exact aqq ⟨_,g,rfl,_,rfl⟩ ⟨_,j,rfl,_,rfl⟩ (by simpa[rs.length,rt.length]using p) (by lia) c.prog c.w _ _ ⟨_,σ,.bool _,i,.refl,h⟩
end
section
variable{prog:akH}{w:afJ}{A:af2}{E:VD->VE->Prop}{s:VE}{K:af7}{x C:VI}{ox:Obj}{od:Option Obj}{name:Str}{expr:Bool}{v:VD}
structure Ac (K:af7) (C:VI):Prop where
 ga:aga K (.ref C) "__getattribute__" = Y (Y (.builtin "BaseException.__getattribute__"))
 hook:aga K (.ref C) "__getattr__" = Y Sa
 j6:mroIn K C (.type "BaseException")=Y W
 dict:akJ K C=W
theorem afU{E:VD->VE->Prop}{P:Fin->VE->Prop}{d:aof}{os:acH}(L0:amg (VL prog w) hp (an6 (.ref x)) (.ref C))(a:amg (VL prog w) hp (anJ (.ref x) (.ref C) name) (.value v))(h:P (.done (.ret v)) ⟨hp,gs,d,t,os⟩): wpAny (VL prog w) A (Builtin.«object.__getattribute__» ⟨[.ref x,.str name tk],[]⟩) P E ⟨hp,gs,d,t,os⟩:=by
 unfold Builtin.«object.__getattribute__»;refine wpAny_bind (wpAny_pure ?_);show wpAny _ _ (aqj (.str name tk) >>= _) _ _ _;refine wpAny_bind (wpAny_pure ?_);refine wpAny_bind (L0.at (wpAny_bind (a.at ?_)));exact wpAny_pure h
theorem ads{E:VD->VE->Prop}{Q:Unit->VE->Prop}(a:amg M s.heap (ane (.ref x) (.type "BaseException")) W)(q:Q () s):wpAny M A (alG "BaseException.__getattribute__" ⟨[.ref x,nameV],[]⟩) Q E s :=@check_slot M A E s "BaseException.__getattribute__" "BaseException" "__getattribute__" (.ref x) [nameV] [] Q (by decide +kernel) (by decide +kernel) a (PySem.F.args_bexc_ga (.ref x) nameV) q
theorem adq{R:alI->VE->Prop}{d:aof}{os:acH}(L0:amg (VL prog w) hp (an6 (.ref x)) (.ref C))(a:amg (VL prog w) hp (anJ (.ref x) (.ref C) name) (.value v))(b:amg (VL prog w) hp (ane (.ref x) (.type "BaseException")) W)(h:R (.ok (.ret v)) ⟨hp,gs,d,t,os⟩): aky (VL prog w) A (.call (.builtin "BaseException.__getattribute__") ⟨[.ref x,.str name tk],[]⟩) R ⟨hp,gs,d,t,os⟩:=amy amN.ga.plain PySem.F.entry_bexc_ga (ads (s:=⟨hp,gs,d,t,os⟩) b (afU L0 a h))
theorem acx{Q:VD->VE->Prop}(X:K.In s.heap)(I:InstAt s.heap x ox C od)(g:Ac K C)(j:findObj K C od name=Y (.value v))(hh:handedIn v=W)(h:Q v {s with toks:=s.toks+1}): wpAny (VL prog w) A (amK (.ref x) name expr) Q E s:=by
 obtain⟨l,m,d,t,os⟩:=s;have L0:=I.type (M:=VL prog w);have b:=alS (M:=VL prog w) X g.ga;have e:=alS (M:=VL prog w) X g.hook;have f:=looks_find (M:=VL prog w) X I j;have i:amg (VL prog w) l (ane (.ref x) (.type "BaseException")) W:=L0.andThen (looks_mroIn X g.j6);unfold amK getAttrBy;refine wpAny_bind (wpAny_mkText (ab9 (wpAny_bind (L0.at (wpAny_bind (b.at ?_))))));have a:(aok "BaseException.__getattribute__" == aok "object.__getattribute__")=UA:=by decide +kernel
 dsimp only;rw[VP (by rw[a,ap7];decide)];unfold getAttrByItsOwn hookBefore;rw[VY (show onTheHeap (.ref C)=W from rfl)];refine wpAny_bind (e.at (wpAny_bind (wpAny_attempt (ab9 ?_))));unfold callGetattribute;rw[VP (by cases expr<;>decide)];unfold boundAndCalled;refine wpAny_bind (anT (amN.ga.bind (.ref x)) ?_);refine anc (adq L0 f i ?_);show wpAny _ _ (handedOut v) _ _ _;rw[handedOut_of hh];exact wpAny_pure h
end
section
variable{c:GC}{f:Fc}{l:Lc}{σ aje:Sg}{s s':VE}{Q:QV}{X:QX}
theorem Wu(g:Ac c.K C)(w:aga c.K (.ref C) name=Y Sa)(x:fs.lookup name=Y y)(z:y.wq=W)(h:Q y σ): qN c f (λv=>amK v name b) (.exc C fs) l σ Q X:=λv s e r=>by
 obtain⟨a,d,A,es,n,rfl,_,_,e1,e2,m,i,j,rf⟩:=r.acv;refine aU (cD.find name rf x) λu p rv=>?_;exact acx (ia e.g) (I:=⟨e1,e2,m,by rw[i];exact j⟩) (od:=Y (ace es n)) g (findObj_own g.dict w (by rfl) (by rw[aph];exact p)) (rv.handed z) (dy e rv h)
theorem Vb(j:σ.H[k]?=Y (.bu fs))(B:fs.length<=2 ^ 62)(h:Q (.int fs.length) σ):dX c f (.builtin "len") [.ref k] l σ Q X:=λvs s b r=>by
 refine aU r.qg λv a p=>?_;subst a;refine a9 p.nN λa _=>?_;subst a;refine zx (b.g.objs k _ j) λe es n g r m nd=>?_;refine iY (Qx (P:=c.prog) (w:=c.w) r) λkvs p C i=>?_;have y:(kvs.map (·.1)).Nodup:=by rw[i];exact nd
 have D:s.heap.DictOf (aoj c.prog c.w) (σ.μ k) kvs:=⟨_,es.toArray,n,g,⟨rfl,rfl,rfl⟩,rfl,λe he=>by
  refine oQ (m.all e (by simpa using he)) λx t e1 e2=>?_;exact⟨x,by rw[e1];exact ala _ _ x t,e2⟩,by simpa using p,y⟩
 have A:(σ.μ k == aic)=UA:=by
  rw[VQ];intro q;have z:=(b.g.own (σ.μ k) (by rw[e];simp)).1;rw[q]at z;exact c.mods z
 have ln:kvs.length=fs.length:=by rw[←VO (f:=(·.1)),i,VO]
 exact call_len_dict A D (by lia) (by rw[ln];exact dy b (.int _ _) h)
theorem Zr{b:List (Option VC)}(hD:litPairs b values=some [(.str x,.int i)])(j:b.all (·.isSome)=true)(hl:b.length=values.length)(Z:b≠[])(m:b.length<=15)(h:∀N:Sg,N.H=σ.H++[.bu [(x,.int i)]]->Q (.ref σ.H.length) N):bG c f (.Dict b values pos) l σ Q X:=λs C=>by
 refine Dict_lits_str hD rfl (by simp[strKeysOf]) j hl Z m λa o ajj tk D E T k=>?_;refine aU T λkvs A fl=>?_;refine nJ A λes S p od ok op on=>?_;refine fw p λI L M=>?_;cases fl with
 | @cons x _ _ _ _ fv fr =>
 cases fr;refine VF fv.int_inv λt z=>?_;subst z;obtain⟨oc,odi,oda,osl⟩:=o;dsimp only at I L M od;subst I L M od;obtain⟨el⟩:=es;have st:s.heap.StaysIn ajj:=k;have kr:iM (((σ.add a (.bu [(x,.int i)]) none)).V f.pv) ajj [(x,.int i t)] [(x,.int i)]:=.cons (.int _ _) .nil;refine a9 (Rm op kr λq hq=>ok q (by simpa using hq)) λr1 r2=>?_;have G:(σ.add a (.bu [(x,.int i)]) none).μ σ.H.length=a:=VY rfl;have A:∀y,(none:Option VI)=some y->s.heap.objs.size<=y/\∃o,ajj.get? y=some o:=λy e=>by exact bN e
 have B:Ok c.w.params (σ.add a (.bu [(x,.int i)]) none) ((σ.add a (.bu [(x,.int i)]) none).V f.pv) ajj σ.H.length (.bu [(x,.int i)]):=⟨by rw[G];exact VY rfl,el,S,by rw[G];exact E,r1,r2,by simp⟩;exact⟨.ref σ.H.length,_,Rel.added,(C.add st D ⟨_,E⟩ A B).tok tk,aQ.add C.g st D λ_ e=>by exact bN e,h _ rfl⟩
theorem ae8{a:List (Int×VD)}:∀{D:List (PyData×PyData)},PyProof.V.FlatPairs af8 a D->∀{v:Int},D.find? (λp=>aaI p.1 (.int i))=Y (.int i,.int v)->∃t,alz a i=Y (.int v t):=by
 induction a with
 |nil=>intro D r v e;cases r;exact nK e
 |cons p a j =>
  intro D r v e;cases r with
  | @cons k w d a D fv fr =>
   by_cases q:k=i
   .subst q;rw[alh (by simp[aaI])]at e;cases e;refine VF fv.int_inv λt b=>?_;subst b;exact⟨t,by unfold alz;rw[alh (by simp)];rfl⟩
   .rw[ali (by simp[aaI,q])]at e;refine(j fr e).imp λt h=>?_;unfold alz at h ⊢;rw[ali (by simpa using q)];exact h
theorem ZE{b:List (Option VC)}{D:List (PyData×PyData)}(hD:litPairs b values=Y D)(hs:intKeyed D=W)(hn:(intKeysOf D).Nodup)(m:b.all (·.isSome)=W)(hl:b.length=values.length)(h0:b≠[])(x:b.length<=15)(h:bG c f slice l σ (λy E=>∃i v,y = .int i/\D.find? (λp=>aaI p.1 (.int i))=Y (.int i,.int v)/\Q (.int v) E) X):bG c f (.Subscript (.Dict b values dpos) slice pos) l σ Q X:=λs C=>by
 refine apO (Dict_lits_int hD hs hn m hl h0 x λa o e tk L ho T k=>?_);refine aU T λkvs M fl=>?_;have R1:R c f l σ {s with heap:=e,toks:=tk}:=(C.grow k).tok tk;refine cH (h _ R1) (λw ajl y G rw H j zq=>mG zq λi v ey fd q=>?_) λ_ _ p=>gz.after (s₁:={s with heap:=e,toks:=tk}) (aQ.grow k) p;subst ey;refine VF rw.int_inv λt B=>?_;subst B;refine VF (ae8 fl fd) λu hu=>?_;have N:gM o:=by refine mG M λes ep _ od _=>?_;intro vs z;rw[od]at z;exact kG z
 have un:σ.σ a=Sa:=C.g.qd L;have A:¬f.pv a:=λz=>absurd (C.g.Jv z) (akM.mpr L);refine fw (j.keep a o ho (λz=>A (C.own a z)) un) λ_ kp _=>?_;refine aU (kp (.inl N)) λZ I sm=>?_;have eo:Z=o:=(sm.1 N).2 A;subst eo;have hm:=(Heap.dictOf_iff.mpr ⟨Z,I,M⟩).mapOf;have S:=(aQ.grow (P:=f.P) (pv:=f.pv) (σ:=σ) k).trans j;exact o7 hm.typeIs am4.lookup (anj (intKind_is _ _ i t) hm hu ⟨.int v,G,.int _ _,H.tok _,S,q⟩)
end
section
variable{prog:akH}{w:afJ}{A:af2}{E:VD->VE->Prop}{s:VE}
theorem ZW(b n:Nat)(hb:b<=n):alP Sa (Y (b:Int)) 1 (n:Int)=(0,(b:Int)):=by
 unfold alP;have h1:¬((1:Int)< 0):=by decide
 have h2:¬((b:Int)< 0):=Int.not_lt.mpr (alW b);simp only[h1,h2,if_false]
 congr 1
 lia
theorem agh(b:Nat):akZ 0 (b:Int) 1=b:=by
 unfold akZ;have h1:(1:Int) > 0:=by decide
 simp only[h1,if_true,Int.ediv_one]
 split<;>lia
theorem ahI{sl:VI}{b n:Nat}{u:Tok}{Q:Int×Int×Nat->VE->Prop}(f:s.heap.IsSliceOf sl .none (.int b u) .none)(hb:b<=n)(h:Q (0,1,b) s): wpAny (VL prog w) A (am0 (.ref sl) (pure (n:Int))) Q E s:=by
 refine iY (id f) λos a e oa=>?_;unfold am0 aqu;refine wpAny_bind (wpAny_bind (akB a oa (x:=.none) rfl (wpAny_bind (akB a oa (x:=.int b u) rfl (wpAny_bind (akB a oa (x:=.none) rfl (wpAny_pure ?_)))))));refine wpAny_bind (slicePart_none ?_);show wpAny _ _ (if ((1:Int) == 0)=W then _ else _) _ _ s;rw[VP (by decide)];refine wpAny_bind (slicePart_none (wpAny_bind (slicePart_int (wpAny_bind (wpAny_pure ?_)))));show wpAny _ _ (match alP Sa (Y (b:Int)) 1 (n:Int) with|(lo,hi)=>pure (lo,(1:Int),akZ lo hi 1)) _ _ s;rw[ZW b n hb];show wpAny _ _ (pure ((0:Int),(1:Int),akZ 0 (b:Int) 1)) _ _ s;rw[agh b];exact wpAny_pure h
theorem age(xs:Array VD)(b:Nat):((akk b).filterMap λ(k:Nat)=>xs[((0:Int)+(k:Int)* 1).toNat]?).toArray=(xs.toList.take b).toArray:=by
 have e:(λ(k:Nat)=>xs[((0:Int)+(k:Int)* 1).toNat]?)=λk=>xs[0+k]?:=by
  funext k
  have:((0:Int)+(k:Int)* 1).toNat=0+k:=by rw[aoD,Int.mul_one,akE];rfl
  rw[this]
 rw[e];have:=pick_run xs 0 b;rw[List.filterMap_map]at this;have e2:((λx=>xs[x]?)∘λx=>0+x)=λk=>xs[0+k]?:=rfl;rw[e2]at this;rw[this];rfl
theorem adt{t sl:VI}{items:Array VD}{b:Nat}{u:Tok}{Q:VD->VE->Prop}(e:IsTup s.heap t items)(x:s.heap.IsSliceOf sl .none (.int b u) .none)(hb:b < items.size)(h:Q (.ref s.heap.objs.size) {s with heap:=s.heap.push {cls:=.type "tuple",data:=.seq (items.toList.take b).toArray} })(p:items.size<=WI):wpAny (VL prog w) A (ang (.ref t) (.ref sl)) Q E s:=by
 have a:sizeOk (.seq (items.toList.take b).toArray):=by
  show(items.toList.take b).toArray.size<=WI;rw[VN,List.length_take,aop];exact VR (apz _ _) p
 refine iY (id x) λos l i oa=>?_;have f:s.TypeIs (.ref sl) "slice":=⟨os,l,i⟩;unfold ang
 try with_reducible refine ab9 ?_
 first|refine wpAny_bind (wpAny_pure ?_)|skip
 refine wpAny_bind (ao1 e.typeIs (by decide) ?_);refine wpAny_bind (anF (name:=ano "__getitem__") e.typeIs alQ
  (apx alQ e.typeIs entry_tuple_getitem ?_ (args_tuple_getitem _ _)))
 show wpAny _ _ (aqr (.ref t) >>= _) _ _ s;refine wpAny_bind (tupleItemsOf_ e ?_);refine wpAny_bind (wpAny_typeOf f ?_);rw[VY (by decide)];refine wpAny_bind (ahI (n:=items.size) x (alw hb) ?_);have j:¬(((0:Int) == 0&&(1:Int) == 1&&b == items.size)=W):=by
  have:(b == items.size)=UA:=VQ.mpr (abv hb);rw[this];simp
 show wpAny _ _ (if ((0:Int) == 0&&(1:Int) == 1&&b == items.size)=W then _ else _) _ _ s;rw[VP j,age items b]
 first
  |exact wpAny_bind (m:=alX _) (alu (wpAny_pure ⟨_,rfl,wpAny_pure h⟩) a)
  |exact wpAny_bind (m:=alX _) (alu (wpAny_bind (wpAny_pure (wpAny_pure ⟨_,rfl,wpAny_pure h⟩))) a)
  |exact wpAny_bind (wpAny_bind (m:=alX _) (alu (wpAny_pure (wpAny_pure ⟨_,rfl,wpAny_pure h⟩)) a))
variable{c:GC}{f:Fc}{l:Lc}{σ:Sg}{aje:Sg}{s':VE}{Q:QV}{X:QX}
theorem Wq{i e:VC}{xs:List O}{b:Nat}(hb:b < xs.length)(y:xs.length<=WI)(h:Q (.tup (xs.take b)) σ):vh c f i e (.tup xs) Sa (Y b) Sa l σ Q X:=λv sl G H vs s m r x z B C=>by
 refine oR r.JV λa us n j D g rs=>?_;subst j;cases z;cases B;cases C;have p:IsTup s.heap a us.toArray:=⟨_,g,rfl,_,rfl⟩;refine o7 p.typeIs alQ.lookup (adt p x (by rw[VN,rs.length];exact hb) ?_ (by rw[VN,rs.length];exact y));exact⟨.tup (xs.take b),σ,JW (vs:=us.take b) m (rs.take b) 0,m.push _,aQ.push _ _,h⟩
end
theorem Nt:apM (.type "dict_values") "__contains__" = pure Sa:=by rw[typeLookup_type,builtinLookup_eq_fast];kernel_rfl
theorem MZ:entryFor table "proto.contains_iter" = Y Builtin.«proto.contains_iter»:=entryFor_of_tree (by kernel_rfl)
theorem EY:plainId "proto.contains_iter" = W:=by decide +kernel
theorem adE{A:af2}(h:A.handled=Sa):A.in1.handled=Sa:=h
section
variable{prog:akH}{w:afJ}{A:af2}{E:VD->VE->Prop}{s:VE}{K:Type} [DecidableEq K] {knd:KeyKind prog w K}
theorem aa3{it d:VI}{a:List (K×VD)}{B:Nat}{x:Str}{u:Tok}{R:alI->VE->Prop}(hh:A.handled=Sa)(N:d≠it)(L:∀p∈a,∃y t,p.2 = .str y t):∀(n i:Nat) (s:VE),a.length - i=n->s.heap.IsValIter it d i a.length B->s.heap.DictAt knd d a B -> (∀h',anR it s.heap h'->R (.ok (.ret (.bool ((a.drop i).any λp=>akj x p.2)))) {s with heap:=h'})->aky (VL prog w) A (.builtin "proto.contains_iter" ⟨[.ref it,.str x u],[]⟩) R s:=by
 intro n;induction n with
 |zero =>
  intro i s e hi f h;refine apX MZ ?_;rw[aog EY _];unfold Builtin.«proto.contains_iter»;refine wpAny_bind (wpAny_pyNext_values_end (adE hh) hi f (aat.mpr (aob e)) λh' G=>?_);refine wpAny_bind (anb (wpAny_pure ?_));have:=h h' G;rw[anW (aob e)]at this;exact this
 |succ n M =>
  intro i s e hi f h;have lt:i < a.length:=Nat.lt_of_sub_eq_succ e;refine s6 (L a[i] (List.getElem_mem lt)) λy t C=>?_;have I:a[i]?=Y (a[i].1,.str y t):=by rw[←C];simp[lt]
  refine apX MZ ?_;rw[aog EY _];unfold Builtin.«proto.contains_iter»;refine wpAny_bind (wpAny_pyNext_values_item hi f I λh' l m=>?_);refine wpAny_bind (wpAny_eqBool_str ?_);rw[List.drop_eq_getElem_cons lt,akU,C]at h;by_cases q:y=x
  .subst q;rw[VY (by simp)];refine wpAny_bind (anb (wpAny_pure ?_));have:=h h' m.extBut
   simpa[akj]using this
  .rw[VP (by simpa using q)];refine wpAny_pure ⟨plainId_quiet EY _,M (i+1) {s with heap:=h'} (by rw[amM,e];rfl) l (f.extBut m.extBut N) λh2 j=>?_⟩;have:=h h2 (λb o D H=>j b o D ((m.2 b D).trans H));have z:akj x (.str y t)=UA:=by simp[akj,q]
   rw[z,aqn]at this;exact this
theorem aec{a:List (K×VD)}{Q:VD->VE->Prop}(hh:A.handled=Sa)(l:∀p∈a,∃y t,p.2 = .str y t)(i:s.heap.IsValuesView v d)(f:s.heap.DictAt knd d a ep)(h:∀h',s.heap.StaysIn h'->Q (.bool (a.any λp=>akj x p.2)) {s with heap:=h'}):wpAny (VL prog w) A (VV .In (.str x u) (.ref v)) Q E s:=by
 show wpAny _ _ (do return .bool (←contains (.ref v) (.str x u))) Q E s;refine wpAny_bind ?_;unfold contains
 try with_reducible refine ab9 ?_
 refine wpAny_bind (apY i.typeIs Nt ?_);rw[VP (by decide)];refine wpAny_bind (wpAny_bind (apY i.typeIs Nt (wpAny_pure ?_)));refine wpAny_bind (anb ?_);refine wpAny_bind (wpAny_tryCatch (wpAny_pyIter_values i f ?_));refine wpAny_bind (wpAny_runValue ?_);have lt:=f.lt_size;have fr:s.heap.get? s.heap.objs.size=Sa:=by
  cases q:s.heap.get? s.heap.objs.size with
  |none=>rfl
  |some o=>exact absurd (WK q) (ame _)
 refine aa3 hh (abv lt) l a.length 0 _ (by simp) ⟨_,WQ _ rfl,rfl,rfl⟩ (f.push _) λh' j=>?_;refine wpAny_pure (wpAny_pure (h h' λb o e=>?_));exact j b o (λz=>by rw[z,fr]at e;exact bN e) (VX _ e)
end
noncomputable def uM(x:Str):O->Bool
 | .str y=>y == x
 |_=>UA
noncomputable def uK:O->Bool
 | .str _=>W
 |_=>UA
section
variable{c:GC}{f:Fc}{l:Lc}{σ aje:Sg}{s s':VE}{Q:QV}{X:QX}
theorem ah3{K:Type}{x:Str}{ks:List K}{vs:List VD}{xs:List O}(R:iO c vs xs):ks.length=vs.length->xs.all uK=W->(∀p∈ks.zip vs,∃y t,p.2 = .str y t)/\((ks.zip vs).any λp=>akj x p.2)=xs.any (uM x):=by
 induction R generalizing ks with
 |nil=>intro _ _;rw[List.zip_nil_right];exact⟨λp m=>(by exact dw m),rfl⟩
 | @cons v vs y xs a r i =>
  intro e b;induction ks using cL with
  |nil=>cases e
  |cons k ks =>
  rw[amX,VG]at b;refine a9 (i (amo e) b.2) λj w=>?_;have q:=a ⟨λ_=>0,0,λ_=>False⟩ λ_ _ z=>z;obtain⟨z,rfl⟩: ∃z,y = .str z:=by revert b;cases y<;>intro b<;>first|exact⟨_,rfl⟩|exact nomatch b.1
  refine VF q.str_inv λt h=>?_;subst h;rw[alc,akU,akU,w];refine⟨λp m=>?_,rfl⟩;rcases WM.mp m with rfl|m
  .exact⟨_,_,rfl⟩
  .exact j p m
theorem aeb{d:VI}{j:List (AK×O)}{x:Str}{u:Tok}{P:VD->VE->Prop}{E:VD->VE->Prop}{s:VE}(hq:c.quiet=W)(D:gZ c d j)(z:j.all (λp=>uK p.2)=W)(L:R c f l σ s)(h:∀h',s.heap.StaysIn h'->P (.bool (j.any λp=>uM x p.2)) {s with heap:=h'}):s.TypeIs (.ref d) "dict" /\ (∃o,s.heap.get? d=Y o/\o.dict=Sa)/\wpAny (VL c.prog c.w) f.A (call (.builtin "dict.values") [.ref d]) (λw s₁=>wpAny (VL c.prog c.w) f.A (VV .In (.str x u) w) P E s₁) E s:=by
 have C:∀{K:Type} [DecidableEq K] {i:KeyKind c.prog c.w K}{ks:List K}{vs:List VD}{xs:List O}{G:Nat},c.base.DictAt i d (ks.zip vs) G->iO c vs xs->ks.length=vs.length->(d == aic)=UA->xs.all uK=W ->
   (∀h',s.heap.StaysIn h'->P (.bool (xs.any (uM x))) {s with heap:=h'})->s.TypeIs (.ref d) "dict" /\ (∃o,s.heap.get? d=Y o/\o.dict=Sa)/\wpAny (VL c.prog c.w) f.A (call (.builtin "dict.values") [.ref d]) (λw s₁=>wpAny (VL c.prog c.w) f.A (VV .In (.str x u) w) P E s₁) E s:=by
  intro K _ i ks vs xs G D m ln B z h;refine a9 (ah3 (x:=x) m ln z) λZ i2=>?_;have I:=DictAt.stays D L.g.stays;have hm:=I.dictOf;refine⟨hm.typeIs,(by refine gS hm λo es N T S _=>?_;exact⟨o,T,S.2.1⟩),?_⟩;refine call_meetsIn anv hm.typeIs PySem.F.entry_dict_values (PySem.F.args_dict_values_1 _) (meets_dict_values i d B) ⟨⟨_,hm⟩,?_⟩;refine aec (L.g.hand hq) Z ⟨_,WQ _ rfl,rfl,rfl⟩ (I.push _) λh' st=>?_;rw[i2];exact h h' λb o e=>st b o (VX _ e)
 have M:∀{H:Type}(ks:List H) (xs:List O) (g:H->AK),ks.length=xs.length->(((ks.map g).zip xs).all λp=>uK p.2)=xs.all uK/\(((ks.map g).zip xs).any λp=>uM x p.2)=xs.any (uM x):=by
  intro H ks;induction ks with
  |nil=>intro xs g e;cases xs<;>first|exact⟨rfl,rfl⟩|cases e
  |cons k ks ih =>
   intro xs g e;induction xs using cL with
   |nil=>cases e
   |cons y xs =>
    refine a9 (ih xs g (by simpa using e)) λa b=>?_;simp only[WH,alc,amX,akU];rw[a,b];exact⟨rfl,rfl⟩
 rcases D with @⟨ks,vs,xs,G,D,m,ln,B⟩| @⟨ks,vs,xs,G,D,m,ln,B⟩
 .refine a9 (M ks xs AK.int (ln.trans m.length)) λa b=>?_;rw[a]at z;rw[b]at h;exact C D m ln B z h
 .refine a9 (M ks xs AK.str (ln.trans m.length)) λa b=>?_;rw[a]at z;rw[b]at h;exact C D m ln B z h
theorem Zu(hq:c.quiet=W)(hb:qf o=W)(hl:(ap.endLine == cp.line)=W)(h:bG c f a l σ (λx A=>bG c f o l A (λz j=>∃y d i,x = .str y/\z = .gl d/\gZ c d i/\i.all (λp=>uK p.2)=W/\Q (.bool (i.any λp=>uM y p.2)) j) X) X): bG c f (.Compare a [.In] [.Call (.Attribute o "values" ap) [] [] cp] pos) l σ Q X:=λs hR=>by
 refine wpAny_Compare1 (cH (h s hR) (λv s₁ x A rv I B L=>?_) λ_ _ p=>p) rfl;rw[arm_eval_Call,EE hb];refine wpAny_bind (cH (L s₁ I) (λw S z j rz m M q=>wpAny_bind (akr ?_)) λ_ _ p=>p.after B);obtain⟨y,d,i,Z,ez,D,T,q⟩:=(q);subst Z ez;refine VF rv.str_inv λu H=>?_;subst H;have:=rz.B7;subst this;refine fw (aeb (u:=u) (x:=y) (P:=iN c f l σ s Q) (E:=dI c f σ s λl' x aje=>l'=l/\X x aje) hq D T m λh' st=>⟨_,j,.bool _,m.grow st,(B.trans M).trans (aQ.grow st),q⟩) λhT G hw=>?_;refine aU G λod ho N=>?_;have C:amY W o f.env ap cp=pure cp:=by unfold amY;simp[hl]
 unfold methodCall;rw[show an5 (([]:List VC).length+([]:List aqb).length) (amr cp (alk [] f.env)) (backToKw cp (apk [] f.env))=W from rfl];refine wpAny_bind (ab9 (ao3 hT PySem.F.plainAttrs_dict anv PySem.F.type_dict_values ?_ ?_))
 .intro b e;have zq:=akI e;clear e;subst zq;exact⟨od,ho,N⟩
 refine wpAny_bind (anT C ?_);refine apj (P:=λh=>c.K.In h) rfl (dW.bi _) (evalArgs_nil3 ⟨ia m.g,?_⟩);exact hw
def D5(c:GC)(f:Fc)(j:Obj)(vs:List VD)(xs:List O)(a it e:VI)(i:Nat)(σ:Sg)(h:WA):Prop :=(σ.σ e=Sa/\c.base.get? e=Sa/\∃b,IsEnum h e it i b)/\iL c it "list_iterator" #[.ref a,.int i 0] σ h/\iP f.pv a j vs xs σ h
theorem D5.mr(x:D5 c f ob vs xs a it e i σ h):∀b∈[e,it],σ.σ b=Sa/\c.base.get? b=Sa/\∃o,h.get? b=Y o/\iz o:=λb q=>by
 rcases WM.mp q with rfl|q
 .refine sZ x.1 λm x2 j x3=>?_;exact⟨m,x2,_,x3,⟨_,rfl⟩,_,rfl,by decide⟩
 .exact x.2.1.mr (by decide) b q
theorem abK{x1}(hq:c.quiet=W)(ne:e≠it):nU c f (.Tuple elts x1 pos) e [e,it] (D5 c f { cls:=.type "list",data:=.seq vs.toArray n} vs xs a it e) (λi x H=>∃y,xs[i]?=Y y/\x = .tup [.int i,y]) (λi H=>xs[i]?=Sa):=by
 refine⟨λst=>st.mr,λ{i l σ s aje h'} m st S _=>?_,λ{i l σ s x P E} m st gx T=>?_,λ{i l σ s P E} m st sp T=>?_⟩
 .refine fw st λh D G=>?_;refine sZ h λC b1 p e1=>?_;refine a9 (CL (i:=0) m e1 ⟨⟨_,rfl⟩,_,rfl,by decide⟩ C S) λx y=>?_;exact⟨⟨x,b1,p,y⟩,D.keep (by decide) m S,G.keep m S⟩
 .refine aU gx λy gy B=>?_;subst B;have io:∀b∈[e,it],∃o,s.heap.get? b=Y o/\iz o:=λb q=>(st.mr b q).2.2;refine fw (id st) λh j G=>?_;refine sZ h λC b1 p e1=>?_;refine jO j λi1 D o N d1 I=>?_;refine hX (id G) λ_ _ g r=>?_;refine aU (r.get gy) λv hv rv=>?_;refine anV (i:=i) (items:=vs.toArray) e1 ⟨o,N,d1,I⟩ ⟨_,g,rfl,_,rfl⟩ (by simpa using hv) ne λh' eo hit ht hz M=>?_;have tne:s.heap.objs.size≠e:=aov (WK e1);refine T _ h' (s.toks+1) λP2 E2 hh=>amZ (s:={s with heap:=h',toks:=s.toks+1}) eo λh2 L Z=>?_;have keep:∀b o,b∉[e,it]->s.heap.get? b=Y o->h2.get? b=Y o:=λb o q z=>by
   have q1:b≠e:=λw=>q (by rw[w];simp);have q2:b≠it:=λw=>q (by rw[w];simp);exact(Z.2 b q1).trans (M b o q1 q2 z)
  refine iY hit λoi j1 j2 j3=>?_;refine hh h2 keep ⟨⟨C,b1,_,L⟩,⟨i1,D,oi,(Z.2 it (acb ne)).trans j1,j2,j3⟩,G.fp io keep⟩ ?_;exact .tup (vs:=[_,_]) (n:=0) (m.g.wt (VJ _)) ((Z.2 _ tne).trans ht) (.cons (.int _ _) (.cons (rv.go (Go.fp io keep)) .nil))
 .refine fw (id st) λh j A=>?_;refine sZ h λC b1 p e1=>?_;refine jO j λi1 D o N d1 I=>?_;refine hX A λ_ _ g r=>?_;refine an9 (i:=i) (items:=vs.toArray) (m.g.hand hq) e1 ⟨o,N,d1,I⟩ ⟨_,g,rfl,_,rfl⟩ (by
   rw[aat]at sp;simp;rw[r.length];exact sp) λh' eb=>T h' s.toks λb o q z=>eb b o (λw=>q (by rw[w];simp)) z
theorem aiG{Z:O->Sg->Prop}{K:List O->Sg->Prop}(h:bG c f e l σ Z X)(k:∀a x,Z x a->K [x] a):i8 c f [e] l σ K X:=jW.mono h (λx b q=>k b x q) λ_ _ z=>z
def xl(x:O)(i:Nat)(y:O)(H:List MO):Prop:=∃xs z,listOf H x=Y xs/\xs[i]?=Y z/\y = .tup [.int i,z]
def xm(x:O)(i:Nat)(H:List MO):Prop:=∃xs,listOf H x=Y xs/\xs[i]?=Sa
theorem uS:listOf H (.ref k)=Y xs↔H[k]?=Y (.lst xs):=by
 show H[k]?.bind mA=Y xs↔_;cases H[k]? with
 |none=>exact⟨λh=>(by exact bN h),λh=>(by exact bN h)⟩
 |some m=>exact⟨λh=>congrArg Y (QR h),λh=>congrArg mA (UB h)⟩
theorem Vq(k:Nat):xl (.ref k)=λi x H=>∃xs y,H[k]?=Y (.lst xs)/\xs[i]?=Y y/\x = .tup [.int i,y]:=by
 funext i x H
 unfold xl;simp only[uS]
theorem Vs(k:Nat):xm (.ref k)=λi H=>∃xs,H[k]?=Y (.lst xs)/\xs[i]?=Sa:=by
 funext i H
 unfold xm;simp only[uS]
theorem Vp(xs:List O):xl (.lst xs)=λi x H=>∃y,xs[i]?=Y y/\x = .tup [.int i,y]:=by
 funext i x H
 unfold xl listOf;simp
theorem Vr(xs:List O):xm (.lst xs)=λi H=>xs[i]?=Sa:=by
 funext i H
 unfold xm listOf;simp
theorem VB{Z:(Nat->bp)->(Nat->List MO->Prop)->Sg->Prop}(hq:c.quiet=W)(hn:noStar [e]=W)(h:bG c f (.Name x np) l σ (λy C=>y = .ty "enumerate" /\ bG c f e l C (λz j=>(∃xs,listOf j.H z=Y xs)/\Z (xl z) (xm z) j) X) X): AD c f (.Tuple elts x1 tpos) (.Call (.Name x np) [e] [] pos) l σ Z X:=λs hR =>
 ama (cH (h s hR) (λv s₁ y C r I D ⟨ey,L⟩=>by
  subst ey;cases r.JZ;refine WD (EU (r:=[]) (dW.ty "enumerate") hn (s:=s₁) (aiG (K:=λxs j=>∀vs i,R c f l j i->aQ f.P f.pv C s₁.heap j i.heap->bg (j.V f.pv) i.heap vs xs->wpAny (VL c.prog c.w) f.A (call (.type "enumerate") vs) _ _ i) L λj z q vs i m E rl=>?_) I) (λ_ _ p=>p) λ_ _ p=>p.after D;refine a9 q λG q=>?_;refine VF G λxs hx=>?_;refine aU rl.qg λw B a=>?_;subst B;refine gS (oG m a hx) λla us n B g rs=>?_;subst B;refine call_enumerate_list ⟨_,g,rfl,_,rfl⟩ λh' en it sz k=>?_;have R3:R c f l j {i with heap:=h'}:=m.grow k;have S3:aQ f.P f.pv σ s.heap j h':=(D.trans E).trans (aQ.grow k);refine wpAny_pyIter_enum (s:={i with heap:=h'}) en ?_;refine iY it λoi j1 j2 j3=>?_;have fr:∀b∈[i.heap.objs.size+1,i.heap.objs.size],lg f.P σ s.heap b:=λb z=>lg.of (D.trans E) (by
   rcases WM.mp z with rfl|z
   .exact B6 (alm _)
   .rw[akR.mp z];exact B6 (VJ _))
  have se:(j.σ (i.heap.objs.size+1)=Sa/\c.base.get? (i.heap.objs.size+1)=Sa/\∃N,IsEnum h' (i.heap.objs.size+1) i.heap.objs.size 0 N):=⟨m.g.qd (alm _),m.g.mV (alm _),_,en⟩;have si:iL c i.heap.objs.size "list_iterator" #[.ref la,.int ((0:Nat):Int) 0] j h':=⟨m.g.qd (VJ _),m.g.mV (VJ _),oi,j1,j2,j3⟩;cases z with
  |ref k =>
   refine a9 a.nN λM lt=>?_;cases M;refine⟨_,_,_,_,_,j,rfl,R3,S3,abJ (k:=k) hq (apC _),fr,⟨se,si,lt,?_⟩,?_⟩
   .rfl
   .rw[Vq,Vs]at q;exact q
  |lst ys =>
   cases hx;refine oR a.lst_inv λla' T n' M nt g' S=>?_;cases M;refine⟨_,_,_,_,_,j,rfl,R3,S3,abK (vs:=T) (xs:=xs) (n:=n') hq (apC _),fr,⟨se,si,sU rfl,nt,k _ _ g',S.go (Go.stays k)⟩,?_⟩;rw[Vp,Vr]at q;exact q
  |_=>cases hx) λ_ _ p=>p)
end
def pg(c:GC)(C D:VI)(b:Bool):Prop :=(∃p:XP,c.base.get? C=Y (p.o C)/\(acm C::p.bm).contains (.ref D)=b)/\∃p:XP,c.base.get? D=Y (p.o D)/\p.bm.contains (.type "BaseException")=W
inductive D4 (c:GC) (f:Fc) (C:VI) (y:Str) (b:Bool):Prop
 |mk (D:VI) (yd:(y == ("__debug__" : Str))=UA) (yg:sJ f y) (hm:c.mg y=Y (.ref D)) (m:pg c C D b)
def Ki(c:GC)(f:Fc)(Q:QF)(x:XV)(l:Lc)(σ:Sg)(n:Str)(b:List ajc):Prop :=f.env.kindOf n=Y .local/\∀e,dZ c.loud (f.mark e) (akS b f.env) (cC n (.exc x.C x.fs) l) σ (λk _ a=>Q k [] a) (λ_ _ _=>False)
inductive D3 (c:GC) (f:Fc) (C:VI) (T:Str->List ajc->Prop) (N:Prop):ExceptHandler->Prop
 |hit {y:Str}{yp:Pos}{n:Str}{ajI:ajc}{o6:List ajc}{pos:Pos}:D4 c f C y W->T n (ajI::o6)->D3 c f C T N (amU (Y (.Name y yp)) (Y n) (ajI::o6) pos)
 |miss {y:Str}{yp:Pos}{n:Str}{ajI:ajc}{o6:List ajc}{pos:Pos}:D4 c f C y UA->N->D3 c f C T N (amU (Y (.Name y yp)) (Y n) (ajI::o6) pos)
def Catch(c:GC)(f:Fc)(Q:QF)(x:XV)(l:Lc)(σ:Sg):List ExceptHandler->Prop
 | []=>False
 |h::rest=>D3 c f x.C (Ki c f Q x l σ) (Catch c f Q x l σ rest) h
section
variable{c:GC}{f:Fc}{l:Lc}{σ aje:Sg}{s s':VE}{Q:QF}{X:Lc->QX}
theorem k9.go(r:k9 V h fl k)(g:Go V h V' h'):k9 V' h' fl k:=by
 cases fl<;>cases k<;>first|exact r|exact r.elim|exact Rel.go g r
theorem dY.obj(T:dY c fl V h (.ref a) x):∃b,h.get? a=Y b/\b.cls = .ref x.C:=T.el λ_ b _ _ _ e1 e2 _ _ _ _ _ _ _ _=>⟨b,e1,e2⟩
theorem dY.rel(T:dY c fl V h (.ref a) x):Rel V h (.ref a) (.exc x.C x.fs):=T.el λ_ _ _ _ _ b e i j _ m p w y _=>.exc p w b e (by unfold anY;rw[j]) i m y
section
variable{a:VI}{x:XV}{P:aod->VE->Prop}{E:VD->VE->Prop}
def Kh(c:GC)(f:Fc)(Q:QF)(σ:Sg)(b:WA)(P:aod->VE->Prop):Prop:=∀fl s' k aje,k9 (aje.V f.pv) s'.heap fl k->R c f [] aje s'->aQ f.P f.pv σ b aje s'.heap->Q k [] aje->P fl s'
theorem aaY{H:alI->VE->Prop}(z:Ki c f Q x l σ n (ajI::o6))(I:R c f l σ s)(T:dY c f.fl (σ.V f.pv) s.heap (.ref a) x)(tr:fO c.base a (.ref x.C) .none s.heap)
  (j:Kh c f Q σ s.heap P) (hr:∀fl s',wpAny (VL c.prog c.w) f.A (do bindName f.env n .none;aoh f.env n pos) (λ_ y=>P fl y) E s'->H (.ok fl) s') :
  aky (VL c.prog c.w) (f.A.mark (Y (.ref a))) (.handlers (.ref a) [.ExceptHandler Sa (Y n) (ajI::o6) pos] f.env) H s:=by
 have nl:=z.1;refine codeAny_handlers_suite_as ?_;refine BZ (c:=c.loud) (f:=f.mark (.ref a)) (x:=x) (s:=s) (I.mark (.ref a)) (T.el λ_ _ _ _ _ e1 e2 e3 e4 e5 e6 e7 e8 e9 B=>⟨_,_,_,_,_,_,rfl,e1,e2,e3,e4,e5,e6,e7,e8,e9,B⟩) tr (.inl rfl) λh' M T1 _ S1=>?_;refine zU (c:=c.loud) (f:=f.mark (.ref a)) M T1.rel (.inl nl) λs2 N S2=>?_;refine nz (z.2 (.ref a) s2 N) (λfl s3 k l3 i r3 Z S3 q3=>hr _ _ ?_) λe s3 p=>p.elim λ_ _ _ _ _ _ z=>z.elim;have S:=(S1.trans S2).trans S3;have h:R c f l3 i s3:=I.unmark Z;refine VF h.ns λmm hn=>?_;refine wpAny_nameGoes nl hn (by rw[h.kind];rfl) λh4 m4 L m=>?_;refine gS (id L) λo4 es4 ep4 G D _=>?_;exact j _ _ k i (r3.go (Go.sameBut m (.inr (h.own _ (.inl rfl))))) ((h.qo (l':=[]) (.inl rfl) m G (λvs q=>by rw[D]at q;exact kG q) ⟨_,L⟩ (λb q=>VF (h.iB b q) λv x=>⟨v,x.sameBut m λz=>(VU.mp h.nd).1 (z▸q)⟩) λ_ _ e=>by exact bN e).tok _) (S.trans (aQ.qo m (.inl rfl))) q3
theorem MV(t:D4 c f x.C y b)(e:R c f l σ s)(T:dY c f.fl (σ.V f.pv) s.heap (.ref a) x)(H:b=UA->wpAny (VL c.prog c.w) f.A (handleBy (.ref a) f.env rest) P E s)
  (I:b=W->∀p:alI->VE->Prop,(∀fl s',wpAny (VL c.prog c.w) f.A (do bindName f.env n .none;aoh f.env n pos) (λ_ j=>P fl j) E s'->p (.ok fl) s')->aky (VL c.prog c.w) (f.A.mark (Y (.ref a))) (.handlers (.ref a) [.ExceptHandler Sa (Y n) (ajI::o6) pos] f.env) p s) :
  wpAny (VL c.prog c.w) f.A (handleBy (.ref a) f.env (.ExceptHandler (Y (.Name y yp)) (Y n) (ajI::o6) pos::rest)) P E s:=by
 induction t with
 |mk D L M hm m =>
  refine uX m λi Z G z=>?_;refine aU i λS B hb=>?_;refine wpAny_handleBy_cons (codeAny_handlers_test ?_) (by intro q;cases q);refine amq e.kind M (ao0 (mg:=c.mg) (by rw[e.glob];exact c.top.g.keeps e.g.stays) hm ?_) L;refine aU T.obj λN e1 e2=>?_;refine aiS (h:=s.heap) (g:=s.gens) (d:=s.drawn) (t:=s.toks) (os:=s.os) (e.g.stays _ _ B) (e.g.stays _ _ G) e1 e2 z ?_;rw[hb];induction b using cB with
  |false=>exact H rfl
  |true=>exact I rfl _ λ_ _ h=>h
theorem aaZ(e:R c f l σ s)(T:dY c f.fl (σ.V f.pv) s.heap (.ref a) x)(m:fO c.base a (.ref x.C) .none s.heap)(b:Kh c f Q σ s.heap P):Catch c f Q x l σ hs->wpAny (VL c.prog c.w) f.A (handleBy (.ref a) f.env hs) P E s:=by
 induction hs with
 |nil=>exactλK=>K.elim
 |cons h rest j =>
  intro K;cases K with
  |hit t z=>exact MV t e T (λq=>by exact w5 q) λ_ p i=>aaY z e T m b i
  |miss t z=>exact MV t e T (λ_=>j z) λq=>by exact bD q
end
theorem X6(h:dZ c f (akS body f.env) l σ (λk i b=>Q k i b) λi x b=>Catch c f Q x i b (h₀::hs)):dZ c f (al9 (.Try body (h₀::hs) [] [] pos) f.env) l σ Q X:=λs G=>by
 refine wpAny_Try_except (nz (h s G) (λfl s₁ k i b r m j q=>?_) λe s₁ p=>p.elim λx i b T m j K=>?_)
 .cases fl<;>first|exact⟨k,i,b,r,m,j,q⟩|exact wpAny_execs_nil ⟨k,i,b,r,m,j,q⟩
 .refine Ja m T λh' a E z C H S2=>?_;subst E;refine BZ (s:={s₁ with heap:=h'}) z C H (.inl rfl) λh2 A D w S3=>?_;exact aaZ (s:={s₁ with heap:=h2}) A D w (λfl s' k aje r y B q=>⟨k,[],aje,r,y,((j.trans S2).trans S3).trans B,q⟩) K
end
def EL(M:am8)(A:af2)(E:VD->VE->Prop)(use:Option (VD->Sem Unit))(Q:VD->VE->Prop)(acc:VD)(cenv:Env):alI->VE->Prop
 | .ok _,s'=>(match use with
  |none=>∃m,s'.heap.Ns cenv.locals m/\∀h',adM cenv.locals s'.heap h'->Q acc { s' with heap:=h'}
  |some u=>wpAny M A (u acc) (λ_ a=>∃m,a.heap.Ns cenv.locals m/\∀h',adM cenv.locals a.heap h'->Q .none {a with heap:=h'}) E s')
 | .error x,s'=>∃m,s'.heap.Ns cenv.locals m/\∀h',adM cenv.locals s'.heap h'->wpAny M A (passOn "comprehension.variables-let-go" x cenv:Sem VD) (λ_ _=>False) E { s' with heap:=h'}
section
variable{M:am8}{A:af2}{E:VD->VE->Prop}{s:VE}{env:Env}
theorem abp{B:List (Str×VI)}{use:Option (VD->Sem Unit)}{Q:VD->VE->Prop}(jA:clausesOf e=g::gs)(hs:∀x,agc g.iter env x=pure x)(G:apZ a env=pure B)(l:a.kind = .function)(w:∀x∈a.names,x.2 = .local->a.names.lookup x.1=Y .local)(D:∀x∈a.names,x.2 ≠ .cell)(h:wpAny M A first (λx s₁=>wpAny M A (an2 x) (λit j=>∀i C,C=j.heap.objs.size+1->i.Ns C (λ_=>Sa)->(∀b o,j.heap.get? b=Y o->i.get? b=Y o)->i.get? j.heap.objs.size=Y {cls:=.type "list",data:=.seq [].toArray}-> aky M A (.compStart e 0 it (.ref j.heap.objs.size) (alH a B C env)) (EL M A E use Q (.ref j.heap.objs.size) (alH a B C env)) {j with heap:=i}) E s₁) E s): wpAny M A (comprehension e a env pos (newList []) UA first use) Q E s:=by
 unfold comprehension;rw[G,jA];refine wpAny_bind (WD h (λx s₁ i=>wpAny_bind (akr (wpAny_bind (anT (hs x) (wpAny_bind (ab9 (WD i (λit j X =>
  wpAny_standIf (wpAny_bind (alu (wpAny_bind (wpAny_pure (wpAny_bind (wpAny_newFunctionEnv D (λy hy=>by exact dw hy) (λi Z L=>?_) l))))))) λ_ _ h'=>h'))))))) λ_ _ h'=>h')
 dsimp only at Z L ⊢;generalize hH2:j.heap.push { cls:=.type "list",dict:=Sa,data:=.seq ([]:List VD).toArray}=z at Z L ⊢;have hC:z.objs.size=j.heap.objs.size+1:=by rw[←hH2,aly]
 have N:∀b o,z.get? b=Y o->i.get? b=Y o:=λb o e=>L.extBut b o (abv (WK e)) (VX _ e);have h4:=X i z.objs.size hC Z (λb o e=>N b o (hH2▸VX _ e)) (N _ _ (hH2▸WQ _ rfl));have T:∀x∈(a.names.filter λx=>(x.2 == .local||x.2 == .cell)&&x.1 != (".0" : Str)).reverse,x.2 = .local->Env.kindOf (alH a B z.objs.size env) x.1=Y .local:=λx hx S =>
  aoi (w x (List.mem_filter.mp (anl.mp hx)).1 S)
 have hv':∀x∈(a.names.filter λx=>(x.2 == .local||x.2 == .cell)&&x.1 != (".0" : Str)).reverse.drop 1++(a.names.filter λx=>(x.2 == .local||x.2 == .cell)&&x.1 != (".0" : Str)).reverse.take 1,
   x.2 = .local->Env.kindOf (alH a B z.objs.size env) x.1=Y .local:=λx hx S =>
  (aa1.mp hx).elim (λq=>T x (List.mem_of_mem_drop q) S) λq=>T x (List.mem_of_mem_take q) S
 refine ab9 (wpAny_bind (wpAny_attempt (ab9 (wpAny_run (ak2 h4 λr s' H=>?_)))));cases r with
 |ok f =>
  induction use using cO with
  |none =>
   refine aU H λm hm H=>?_;exact wpAny_bind (ab9 (anw (cenv:=alH a B z.objs.size env) l _ s' m T hm λh' m' _ p=>wpAny_pure (H h' p)))
  |some u =>
   refine wpAny_bind (anb (wpAny_bind (ab9 (WD H (λ_ s'' I=>?_) λ_ _ h'=>h'))));refine aU I λm hm I=>?_;exact wpAny_bind (anw (cenv:=alH a B z.objs.size env) l _ s'' m hv' hm λh' m' _ p=>wpAny_pure (I h' p))
 |error x =>
  refine aU H λm hm H=>?_;exact wpAny_bind (ab9 (anw (cenv:=alH a B z.objs.size env) l _ s' m T hm λh' m' _ p=>WD (H h' p) (λ_ _ f=>f.elim) λ_ _ y=>y))
end
def qG(c:GC)(f:Fc)(l:Lc)(σ:Sg)(X:QX)(K:Bool->Sg->Prop):List VC->Prop
 | []=>K W σ
 | [t]=>gk c f t l σ K X
 |_=>False
def Cp(c:GC)(f:Fc)(x:Str)(j:VC)(ifs:List VC)(h:Lc)(p:Nat)(a:Nat->bp)(e:Nat->List MO->Prop)(Q:List O->Sg->Prop)(X:QX):Nat->Nat->List O->Sg->Prop
 |0,_,_,_=>False
 |n+1,i,acc,σ=>(∃y,a i y σ.H/\qG c f (cC x y h) σ X (λb l=>cond b (bG c f j (cC x y h) l (λz m=>∃acc,m.H[p]?=Y (.lst acc)/\acc.length<=WI/\∀w:Sg,w.H=m.H.set p (.lst (acc++[z]))->Cp c f x j ifs h p a e Q X n (i+1) (acc++[z]) w) X)
   (Cp c f x j ifs h p a e Q X n (i+1) acc l)) ifs)∨(e i σ.H/\Q acc σ)
section
variable{c:GC}{f:Fc}{l:Lc}{σ aje:Sg}{s s':VE}{X:QX}
theorem R.sub(a:R c f l σ s)(k:∀x y,l'.lookup x=Y y->l.lookup x=Y y):R c f l' σ s :=⟨a.g,a.ns,λx y e=>a.vars x y (k x y e),a.iB,a.own,a.nd,a.kind,a.glob,a.lR,a.top⟩
theorem noted_here{b:Lc->QX}{N:VD->VE->Prop}(P:dI c f σ s b e s')(k:∀a x l' aje h',e = .ref a->R c f l' aje {s' with heap:=h'}->dY c f.fl (aje.V f.pv) h' e x->fO c.base a (.ref x.C) f.fl h'->aQ f.P f.pv σ s.heap aje h'->b l' x aje->N e {s' with heap:=h'}): aqa (VL c.prog c.w) f.A f.env N e s':=by
 obtain⟨x,l',aje,T,h,j,q⟩:=P;exact Ja h T λh' a p i m y S1=>k a x l' aje h' p i m y (j.trans S1) q
noncomputable def EK(a:VC)(env:Env)(acc:VD)(d:Code)(b:Bool):Sem Fin:=if b=W then((eval a env >>= λx=>call (.builtin "list.append") [acc,x] >>= λ_=>pure ()) >>= λ_=>again d) else again d
def ML(a:VC)(ifs:List VC)(env:Env)(acc:VD)(d:Code):Sem Fin :=(forIn ifs W λc r=>if r=W then do let ok ←isTrue c env (eval c env);pure (amA ok) else pure (amA r)) >>= EK a env acc d
def aaK(b a:VC)(ifs:List VC)(it acc:VD)(env:Env)(d:Code):Option VD->Sem Fin
 |none=>pure (.done .next)
 |some v=>alO a it v >>= λ_=>ald a env v >>= λ_=>ML b ifs env acc d
theorem ae9{b:alI->VE->Prop}(hq:d.quiet=W)(I:Nat->VE->Prop)(a:∀n s (P:Fin->VE->Prop) (E:VD->VE->Prop),(∀f s',b (.ok f) s'->P (.done f) s')->(∀m s',m < n->I m s'->P (.again d) s')->(∀e s',b (.error e) s'->E e s')->I n s->wpAny M (A.under d) (M.den d) P E s)(n:Nat)(h:I n s):aky M A d b s:=codeAny_loop hq I (λn s h=>a n s _ _ (λ_ _ h=>h) (λm _ lt h=>⟨rfl,m,lt,h⟩) (λ_ _ h=>h) h) n h
theorem abk{N:List O->Sg->Prop}{P:Fin->VE->Prop}{E:VD->VE->Prop}(hb:cond b (bG c f elt lx σ (λz h=>∃acc,h.H[kA]?=Y (.lst acc)/\acc.length<=WI/\∀a:Sg,a.H=h.H.set kA (.lst (acc++[z]))->N (acc++[z]) a) X) (N acc σ))(j:R c f lx σ s)(lt:kA < σ.H.length)(I:σ.μ kA=D)(m:∀acc a s',N acc a->R c f lx a s'->aQ f.P f.pv σ s.heap a s'.heap->P (.again d) s')(G:∀e s',dI c f σ s (λl' x aje=>l'=lx/\X x aje) e s'->E e s'): wpAny (VL c.prog c.w) f.A (EK elt f.env (.ref D) d b) P E s:=by
 induction b using cB with
 |false=>exact wpAny_pure (m _ _ _ hb j .refl)
 |true =>
  refine wpAny_bind (wpAny_bind (cH (hb s j) (λZ i z h S y S5 q=>q.elim λacc q=>?_) λe i p=>G _ _ p));have M:Rel (h.V f.pv) i.heap (.ref D) (.ref kA):=by rw[←I,←S5.mu kA lt];exact .ref (VT lt S5.n)
  exact wpAny_bind (cH (Kg (Q:=λ_ a=>N (acc++[z]) a) (X:=λ_ _=>False) q.1 q.2.1 (λa e=>q.2.2 a e) [.ref D,Z] i y (.cons M (.cons S .nil)))
   (λ_ T u C _ B S6 L=>wpAny_pure (wpAny_pure (m _ _ _ L B (S5.trans S6)))) λe T p=>p.elim λ_ _ _ _ _ _ q=>q.2.elim)
theorem abm{K:Bool->Sg->Prop}{P:Fin->VE->Prop}{E:VD->VE->Prop}(w:qG c f lx σ X K ifs)(h:R c f lx σ s)(i:∀b a s₁,R c f lx a s₁->aQ f.P f.pv σ s.heap a s₁.heap->K b a->wpAny (VL c.prog c.w) f.A (EK elt f.env D d b) P E s₁)(m:∀e s',dI c f σ s (λl' x aje=>l'=lx/\X x aje) e s'->E e s'): wpAny (VL c.prog c.w) f.A (ML elt ifs f.env D d) P E s:=by
 induction ifs using cL with
 |nil=>exact wpAny_bind (wpAny_pure (i W σ s h .refl w))
 |cons t r =>
  induction r using cL with
  |cons _ _=>exact w.elim
  |nil=>exact wpAny_bind (wpAny_bind (wpAny_bind (hW (w s h) (λb p a j S4 hb=>wpAny_pure (wpAny_pure (i b a p j S4 hb))) m)))
inductive xj (c:GC) (f:Fc) (x:Str) (elt:VC) (ifs:List VC) (ajn:Lc) (kA:Nat) (D:VI) (St:Nat->Sg->WA->Prop) (give:Nat->bp) (stop:Nat->List MO->Prop) (Q:List O->Sg->Prop) (Tr:Sg->WA->Prop) (X:QX) (m:Nat) (s₁:VE):Prop
 |mk (i:Nat) (acc:List O) (aje:Sg) (R':R c f ajn aje s₁) (st:St i aje s₁.heap) (tr:Tr aje s₁.heap) (lt:kA < aje.H.length) (mu:aje.μ kA=D) (w:Cp c f x elt ifs ajn kA give stop Q X m i acc aje)
variable{x:Str}{elt:VC}{ifs:List VC}{ajn:Lc}{kA:Nat}{D it:VI}{fp:List VI}{St:Nat->Sg->WA->Prop}{give:Nat->bp}{stop:Nat->List MO->Prop}{Q:List O->Sg->Prop}{Tr:Sg->WA->Prop}
theorem xj.step{m:Nat}{s₁:VE}{G:Prop}(z:xj c f x elt ifs ajn kA D St give stop Q Tr X m s₁)(A:∀i acc aje m',R c f ajn aje s₁->St i aje s₁.heap->Tr aje s₁.heap->kA < aje.H.length->aje.μ kA=D->m' < m->∀y,give i y aje.H->qG c f (cC x y ajn) aje X (λb a=>cond b (bG c f elt (cC x y ajn) a (λz e=>∃acc,e.H[kA]?=Y (.lst acc)/\acc.length<=WI/\∀p:Sg,p.H=e.H.set kA (.lst (acc++[z]))->Cp c f x elt ifs ajn kA give stop Q X m' (i+1) (acc++[z]) p) X) (Cp c f x elt ifs ajn kA give stop Q X m' (i+1) acc a)) ifs->G)(B:∀i acc aje,R c f ajn aje s₁->St i aje s₁.heap->Tr aje s₁.heap->stop i aje.H->Q acc aje->G):G:=by
 induction z with
 |mk i acc aje h st j lt C w =>
  induction m using cN with
  |zero=>exact w.elim
  |succ m=>exact w.elim (λz=>z.elim λy z=>A i acc aje m h st j lt C (af5 m) y z.1 z.2) λz=>B i acc aje h st j z.1 z.2
theorem abq{px:Pos}{d:Code}{m:Nat}{P:Fin->VE->Prop}{E:VD->VE->Prop}{M:alI->VE->Prop}(hq:c.quiet=W)(j:nU c f (.Name x px) it fp St give stop)(hx:pD f x)(hl:ajn.lookup x=Sa)(tS:∀{σ h aje h'},Tr σ h->aQ f.P f.pv σ h aje h'->Tr aje h')(tF:∀{σ h h'},Tr σ h->(∀b o,b∉fp->h.get? b=Y o->h'.get? b=Y o)->Tr σ h')(fin:∀acc aje s',Q acc aje->R c f ajn aje s'->Tr aje s'.heap->M (.ok .next) s')(err:∀a y l' aje s',X y aje->(∀z u,ajn.lookup z=Y u->l'.lookup z=Y u)->R c f l' aje s'->dY c f.fl (aje.V f.pv) s'.heap (.ref a) y->fO c.base a (.ref y.C) f.fl s'.heap->Tr aje s'.heap->M (.error (.ref a)) s')(hd:∀f s',M (.ok f) s'->P (.done f) s')(ha:∀m' s',m' < m->xj c f x elt ifs ajn kA D St give stop Q Tr X m' s'->P (.again d) s')(he:∀e s',M (.error e) s'->E e s')(z:xj c f x elt ifs ajn kA D St give stop Q Tr X m s): wpAny (VL c.prog c.w) f.A (apS (.ref it) >>= aaK elt (.Name x px) ifs (.ref it) (.ref D) f.env d) P (aqa (VL c.prog c.w) f.A f.env E) s:=by
 refine wpAny_bind (z.step (λi acc aje m I B H lt' L lm y gy w=>?_) λi acc aje I B H sp q=>j.fin I B sp λh' t k=>wpAny_pure (hd _ _ (fin acc aje _ q (I.fp (j.there B) k) (tF H k))));refine j.item I B gy λv h' t go=>wpAny_bind (go _ _ λh'' k st2 rv=>wpAny_bind (assign_Name (zU (I.fp (j.there B) k) rv hx λs2 T S3=>?_)));have st3:=j.keep (I.fp (j.there B) k) st2 S3 T.g.stays;have t3:=tS (tF H k) S3;have sub:∀z u,ajn.lookup z=Y u->(cC x y ajn).lookup z=Y u:=λz u e=>by
  rw[my];by_cases q:z=x
  .rw[q,hl]at e;exact bN e
  .rw[VP q];exact e
 have er:∀{G s₁},aQ f.P f.pv aje s2.heap G s₁.heap->∀e s',dI c f G s₁ (λl' w aje=>l'=cC x y ajn/\X w aje) e s'->aqa (VL c.prog c.w) f.A f.env E e s':=λS e s' p =>
  noted_here p λa y' l' Z h' ea R1 T1 tr1 S1 q1=>by subst ea;exact he _ _ (err a y' l' Z _ q1.2 (λz u e=>by rw[q1.1];exact sub z u e) R1 T1 tr1 (tS t3 (S.trans S1)))
 exact abm w T (λb G s3 R4 S4 hb=>abk (N:=λacc τ=>Cp c f x elt ifs ajn kA give stop Q X m (i+1) acc τ) hb R4 (VT lt' S4.n) ((S4.mu kA lt').trans L)
  (λacc τ s' q R6 S6=>ha _ _ lm ⟨i+1,acc,τ,R6.sub sub,j.keep T st3 (S4.trans S6) R6.g.stays,tS t3 (S4.trans S6),VT lt' (S4.trans S6).n,((S4.trans S6).mu kA lt').trans L,q⟩)
  (er S4)) (er .refl)
theorem abn{e:alI->VE->Prop}(hq:c.quiet=W)(B:nU c f (.Name x px) it fp St give stop)(hx:pD f x)(M:ajn.lookup x=Sa)(S:∀{σ h aje h'},Tr σ h->aQ f.P f.pv σ h aje h'->Tr aje h')(tF:∀{σ h h'},Tr σ h->(∀b o,b∉fp->h.get? b=Y o->h'.get? b=Y o)->Tr σ h')(p:∀acc aje s',Q acc aje->R c f ajn aje s'->Tr aje s'.heap->e (.ok .next) s')(j:∀a y l' aje s',X y aje->(∀z u,ajn.lookup z=Y u->l'.lookup z=Y u)->R c f l' aje s'->dY c f.fl (aje.V f.pv) s'.heap (.ref a) y->fO c.base a (.ref y.C) f.fl s'.heap->Tr aje s'.heap->e (.error (.ref a)) s')(n i:Nat)(acc:List O)(G:R c f ajn σ s)(st:St i σ s.heap)(T:Tr σ s.heap)(lt:kA < σ.H.length)(N:σ.μ kA=D)(w:Cp c f x elt ifs ajn kA give stop Q X n i acc σ): aky (VL c.prog c.w) f.A (.compLoop (.ListComp elt [⟨.Name x px,iter,ifs,0⟩] scope pos) 0 (.ref it) (.ref D) f.env) e s:=ae9 rfl (xj c f x elt ifs ajn kA D St give stop Q Tr X) (λm s₁ P E L I he z=>wpAny_noted (m:=compTurn (.ListComp elt [⟨.Name x px,iter,ifs,0⟩] scope pos) 0 (.ref it) (.ref D) f.env) (wpAny_bind (akr (abq hq B hx M S tF p j L I he z)))) n ⟨i,acc,σ,G,st,T,lt,N,w⟩
end
noncomputable def frees:List (Str×acE)->List Str
 | []=>[]
 |(n,k)::r=>if k == .free then n::frees r else frees r
noncomputable def pE(g:Str->VI):List Str->List (Str×VI)->List (Str×VI)
 | [],acc=>acc
 |n::r,acc=>pE g r ((n,g n)::acc)
def hP(a:List Str)(env:Env):List (Str×VI):=pE (λn=>(env.cells.lookup n).getD 0) a []
theorem abc(h:∀n∈frees scope.names,∃a,env.cells.lookup n=Y a):apZ scope env=pure (hP (frees scope.names) env):=by
 unfold apZ hP;have b:∀(l:List (Str×acE)) (acc:List (Str×VI)),(∀n∈frees l,∃a,env.cells.lookup n=Y a)->(forIn l acc (λx r=>do
   if x.2 == .free then do
    let y ←cellOf env x.1
    pure (amA ((x.1,y)::r))
   else pure (amA r)):Sem (List (Str×VI)))=pure (pE (λn=>(env.cells.lookup n).getD 0) (frees l) acc):=by
  intro l;induction l with
  |nil=>intro acc _;rfl
  |cons p r i =>
   intro acc h;obtain⟨n,k⟩:=p;rw[List.forIn_cons];dsimp only;by_cases q:(k == aku)=W
   .have e:frees ((n,k)::r)=n::frees r:=VY q;rw[e]at h ⊢;refine VF (h n (.head _)) λa f=>?_;have w:cellOf env n=pure a:=by unfold cellOf;rw[f]
    rw[VY q,w,pure_bind,pure_bind];dsimp only;rw[i _ λm hm=>h m (.tail _ hm)];show _=pure (pE (λn=>(env.cells.lookup n).getD 0) (frees r) ((n,(env.cells.lookup n).getD 0)::acc));rw[f];rfl
   .have e:frees ((n,k)::r)=frees r:=VP q;rw[e]at h ⊢;rw[VP q,pure_bind];exact i acc h
 exact(congrArg (λt:Sem (List (Str×VI))=>t >>= λj=>pure j) (b scope.names [] h)).trans (pure_bind _ _)
theorem aa5{g:Str->VI}:∀{f:List Str}{acc:List (Str×VI)}{p:Str×VI},p∈pE g f acc↔(p∈acc∨(p.1∈f/\p.2=g p.1)):=by
 intro f;induction f with
 |nil =>
  exact@λacc p=>by simp[pE]
 |cons n r i =>
  exact@λacc p=>by
   show p∈pE g r ((n,g n)::acc)↔_;rw[i];constructor
   .rintro (h|h)
    .rcases WM.mp h with rfl|h
     .exact .inr ⟨.head _,rfl⟩
     .exact .inl h
    .exact .inr ⟨.tail _ h.1,h.2⟩
   .rintro (h|⟨h,e⟩)
    .exact .inl (.tail _ h)
    .rcases WM.mp h with h|h
     .exact .inl (by rw[WM];left;obtain⟨a,b⟩:=p;dsimp only at h e;subst h e;rfl)
     .exact .inr ⟨h,e⟩
theorem QG{f:Type}{g:Str->f}:∀{l:List (Str×f)}{n:Str},(∀p∈l,p.2=g p.1)->(∃p∈l,p.1=n)->l.lookup n=Y (g n)
 | [],_,_,⟨p,m,_⟩=>by exact dw m
 |q::r,n,h,⟨p,m,e⟩=>by
  obtain⟨a,b⟩:=q;rw[VZ];by_cases z:n=a
  .subst z;simp only[ah6];rw[←h (n,b) (.head _)]
  .rw[VQ.mpr z];refine QG (λp i=>h p (.tail _ i)) ⟨p,?_,e⟩;rcases WM.mp m with rfl|m
   .exact absurd e.symm z
   .exact m
theorem aa4{g:Str->VI}:∀{a:List Str}{acc:List (Str×VI)},(pE g a acc).map (·.1)=a.reverse++acc.map (·.1):=by
 intro a;induction a with
 |nil =>
  exact@λacc=>rfl
 |cons n r b =>
  exact@λacc=>by show(pE g r ((n,g n)::acc)).map (·.1)=_;rw[b];simp
theorem IQ{env:Env}(e:env.scope.kind = .function){x:Str}(he:env.kindOf x=Y .cell):∀{a:List (Str×acE)},a.lookup x=Y .free ->
  (a.map λ(n,k)=>if (k == aku&&env.scope.kind == .function&&env.kindOf n == Y .cell) then(n,ak8) else(n,k)).lookup x=Y .cell
 | [],h=>by simp at h
 |(n,k)::r,h=>by
  have f:=@IQ env e x he r;show aqJ x ((if (k == aku&&env.scope.kind == .function&&env.kindOf n == Y .cell)=W then(n,ak8) else(n,k))::_)=_;cases hx:x == n with
  |true =>
   simp only[VZ,hx]at h;have i:=UB h;clear h;subst i;have:n=x:=(akP.mp hx).symm;subst this;simp[e,he]
  |false =>
   simp only[VZ,hx]at h;by_cases b:(k == aku&&env.scope.kind == .function&&env.kindOf n == Y .cell)=W
   .rw[VY b];simp only[VZ,hx];exact f h
   .rw[VP b];simp only[VZ,hx];exact f h
noncomputable def i4(a:List Str)(l:Lc):Lc:=a.filterMap λn=>(l.lookup n).map λv=>(n,v)
theorem RH:∀{f:List Str},(i4 f l).lookup z=Y u->z∈f/\l.lookup z=Y u:=by
 intro f;induction f with
 |nil =>
  exact@λh=>by simp[i4]at h
 |cons n r i =>
  exact@λh=>by
   unfold i4 at h;rw[alM]at h;cases q:l.lookup n with
   |none=>rw[q]at h;refine a9 (i h) λa b=>?_;exact⟨.tail _ a,b⟩
   |some v =>
    rw[q]at h;simp only[ap0,VZ]at h;by_cases e:z=n
    .subst e;simp at h;subst h;exact⟨.head _,q⟩
    .rw[VQ.mpr e]at h;refine a9 (i h) λa b=>?_;exact⟨.tail _ a,b⟩
theorem QH:∀{b:List Str},z∈b->l.lookup z=Y u->(i4 b l).lookup z=Y u:=by
 intro b;induction b with
 |nil =>
  exact@λh _=>by exact dw h
 |cons n r a =>
  exact@λh e=>by
   unfold i4;rw[alM];by_cases q:z=n
   .subst q;rw[e];simp[VZ]
   .have h':z∈r:=(WM.mp h).resolve_left q;have a:=a h' e;unfold i4 at a;cases l.lookup n with
    |none=>exact a
    |some v=>simp only[ap0,VZ];rw[VQ.mpr q];exact a
def jS(f:Fc)(a:akz)(C:VI):Fc:=⟨f.A,alH a (hP (frees a.names) f.env) C f.env,f.fr,f.n,λb=>f.pv b∨b=C⟩
def nV(f:Fc)(a:akz)(l:Lc):Prop:=(frees a.names).Nodup/\∀n∈frees a.names,f.env.kindOf n=Y .cell/\a.names.lookup n=Y .free/\(l.lookup n).isSome=W
section
variable{c:GC}{f:Fc}{l:Lc}{σ aje:Sg}{s s':VE}{X:QX}{scope:akz}
theorem nV.cell(F:nV f scope l)(e:R c f l σ s):∀n∈frees scope.names,∃a,f.env.cells.lookup n=Y a:=λn i=>by
 refine fw (F.2 n i) λk _ y=>?_;refine VF (anm.mp y) λy j=>?_;refine aU (e.vars n y j) λv b _=>?_;unfold fq at b;rw[k]at b;refine aU b λa h _=>?_;exact⟨a,h⟩
theorem xR(F:nV f scope l)(i:R c f l σ s){p:Str×VI}:p∈hP (frees scope.names) f.env↔p.1∈frees scope.names/\f.env.cells.lookup p.1=Y p.2:=by
 unfold hP;rw[aa5];constructor
 .rintro (h|⟨h,e⟩)
  .exact dw h
  .refine VF (F.cell i p.1 h) λa j=>?_;rw[j]at e ⊢;exact⟨h,by rw[e];rfl⟩
 .intro b;refine a9 b λh e=>?_
  right;rw[e];exact⟨h,rfl⟩
theorem M1(F:nV f scope l)(b:R c f l σ s)(h:n∈frees scope.names):(hP (frees scope.names) f.env).lookup n=f.env.cells.lookup n:=by
 refine VF (F.cell b n h) λa e=>?_;rw[QG (g:=λn=>(f.env.cells.lookup n).getD 0) (λp i=>by
  have:=(xR F b).mp i;rw[this.2];rfl) ⟨(n,a),(xR F b).mpr ⟨h,e⟩,rfl⟩,e]
 rfl
theorem xS(F:nV f scope l)(i:R c f l σ s):∀b∈(hP (frees scope.names) f.env).map (·.2),b∈f.env.cells.map (·.2):=λb h=>by
 refine aU (abz.mp h) λp j a=>?_;subst a;refine a9 ((xR F i).mp j) λ_ e=>?_;exact abz.mpr ⟨_,mem_of_lookup e,rfl⟩
theorem Lj(a:R c f l σ s):f.env.cells.Pairwise λx y=>x.2≠y.2:=by
 have:=(VU.mp a.nd).2;rw[aoe,am5]at this;exact this
theorem aa9(F:nV f scope l)(i:R c f l σ s):((hP (frees scope.names) f.env).map (·.2)).Nodup:=by
 have h1:((hP (frees scope.names) f.env).map (·.1)).Nodup:=by
  unfold hP;rw[aa4,aqz,af1];exact I7 F.1
 have b:∀(L:List (Str×VI)),(∀p∈L,f.env.cells.lookup p.1=Y p.2)->(L.map (·.1)).Nodup->(L.map (·.2)).Nodup:=by
  intro L;induction L with
  |nil=>intro _ _;exact .nil
  |cons q r m =>
   intro h nd;rw[WH,VU]at nd ⊢;refine⟨λz=>?_,m (λp a=>h p (.tail _ a)) nd.2⟩;refine aU (abz.mp z) λp a e=>?_;have e1:=mem_of_lookup (h p (.tail _ a));have e2:=mem_of_lookup (h q (.head _));have j:p.2=q.2:=e;rw[j]at e1;have:=aoy (Lj i) e1 e2;exact nd.1 (abz.mpr ⟨p,a,this⟩)
 exact b _ (λp a=>((xR F i).mp a).2) h1
theorem abl(j:R c f l σ s)(F:nV f scope l)(A:scope.kind = .function)(M:ajj.Ns s.heap.objs.size λ_=>Sa)(k:∀b o,s.heap.get? b=Y o->ajj.get? b=Y o): R c (jS f scope s.heap.objs.size) (i4 (frees scope.names) l) σ {s with heap:=ajj,toks:=t}:=by
 refine gS (id M) λoC T S E D _=>?_;have G:gM oC:=λvs q=>by rw[D]at q;exact kG q
 have go:Go (σ.V f.pv) s.heap (σ.V (jS f scope s.heap.objs.size).pv) ajj:=⟨VJ _,λ_ _=>rfl,λb o p Q q=>by
  rcases q with q|q|q
  .exact Q (.inl q)
  .exact Q (.inr q)
  .exact absurd (WK p) (akM.mpr (ak4 q.symm)),λb o p _ _=>⟨o,k b o p,.rfl⟩⟩
 have I:∀b∈(hP (frees scope.names) f.env).map (·.2),f.pv b:=λb h=>j.own b (.inr (xS F j b h));refine⟨⟨λb o p=>k b o (j.g.stays b o p),j.g.frames.of_keeps λb o p _=>⟨o,k b o p,rfl⟩,j.g.stack,j.g.hand,j.g.depth,j.g.units,λenv he L Z=>.inl (j.g.fy env he L Z),λa q=>?_,λi m e'=>(j.g.objs i m e').go go λa q _ o C _=>k a o C,λa q=>(nH (j.g.own a q) λx o y=>⟨x,o,k a o y⟩),j.g.gens,j.g.os⟩,⟨_,M⟩,λx y e=>?_,λb h=>?_,λb q=>?_,?_,A,j.glob,j.lR,j.top⟩
 .rcases q with q|rfl
  .refine hY (j.g.dm a q) λx y o C w=>?_;exact⟨x,y,o,k a o C,w⟩
  .exact⟨j.g.qd (VJ _),j.g.mV (VJ _),oC,E,G⟩
 .refine a9 (RH e) λhx hl=>?_;refine aU (j.vars x y hl) λv H rv=>?_;refine fw (F.2 x hx) λN fr _=>?_;refine⟨v,?_,rv.go go⟩;unfold fq at H;rw[N]at H;refine aU H λa ha B=>?_;have k1:(jS f scope s.heap.objs.size).env.kindOf x=Y .cell:=IQ j.kind N fr;unfold fq;rw[k1];exact⟨a,(M1 F j hx).trans ha,IsCell.data B λo e=>⟨o,k _ _ e,rfl⟩⟩
 .refine VF (j.iB b (xS F j b h)) λv B=>?_;exact⟨v,IsCell.data B λo e=>⟨o,k _ _ e,rfl⟩⟩
 .rcases q with rfl|q
  .exact .inr rfl
  .exact .inl (I b q)
 .refine VU.mpr ⟨λz=>?_,aa9 F j⟩;exact absurd (j.g.Jv (I _ z)) (ame _)
def Tr(f:Fc)(scope:akz)(e:Sg)(a:WA)(aje:Sg)(h':WA):Prop:=aQ (λb=>b∈(hP (frees scope.names) f.env).map (·.2)) f.pv e a aje h'
theorem Tr.step(H:h₀.get? C=Sa)(x:Tr f scope ajy h₀ ajf ajj)(y:aQ (jS f scope C).P (jS f scope C).pv ajf ajj ajg ajo):Tr f scope ajy h₀ ajg ajo:=by
 refine⟨VR x.n y.n,λk D=>(y.mu k (VT D x.n)).trans (x.mu k D),λb o e p q=>?_⟩;have E:b≠C:=λz=>by rw[z,H]at e;exact bN e
 have A:¬(jS f scope C).P b:=λz=>z.elim E p;refine wB (x.keep b o e p q) λs1 L I B m=>?_;refine hX (y.keep b B m A s1) λS _ _ G=>?_;refine⟨S,λr=>?_,λi=>(y.keep b o (I i) A s1).2.2.1 i,G⟩;refine aU (L r) λN e1 a=>?_;refine fw (y.keep b N e1 A s1) λ_ M _=>?_;refine aU (M (a.rv r)) λQ e2 j=>?_;refine⟨Q,e2,⟨λf=>⟨((j.1 (f.of (a.1 f).1)).1).trans (a.1 f).1,λh=>?_⟩,λC w=>⟨(j.2 C (a.2 C w).1).1,(a.2 C w).2.trans (j.2 C (a.2 C w).1).2⟩⟩⟩;have:=(a.1 f).2 h;subst this;exact(j.1 f).2 λz=>z.elim h E
noncomputable def wide(f:Fc)(C:VI):Fc:={f with pv:=λb=>f.pv b∨b=C}
theorem Nj(i:R c f l ajy ajz)(F:nV f scope l)(hC:ajz.heap.get? C=Sa)(S:R c (jS f scope C) l' aje s')(N:Tr f scope ajy ajz.heap aje s'.heap)(kl:∀z u,(i4 (frees scope.names) l).lookup z=Y u->l'.lookup z=Y u):R c (wide f C) l aje s':=by
 have cs:∀b∈(hP (frees scope.names) f.env).map (·.2),f.pv b:=λb h=>i.own b (.inr (xS F i b h));have oC:∀b o,ajz.heap.get? b=Y o->b≠C:=λb o e z=>by rw[z,hC]at e;exact bN e
 have g1:Go (ajy.V f.pv) ajz.heap (aje.V (wide f C).pv) s'.heap:=⟨N.n,N.mu,λb o e t q=>by
   have s1:ajy.σ b=Sa:=akW λz=>t (.inl z);have M:¬f.pv b:=λz=>t (.inr z);refine a9 (N.keep b o e (λz=>M (cs b z)) s1) λa _=>?_;exact q.elim (λz=>z a) λz=>z.elim M (oC b o e),λb o e t r=>by
   have s1:ajy.σ b=Sa:=akW λz=>t (.inl z);have M:¬f.pv b:=λz=>t (.inr z);refine fw (N.keep b o e (λz=>M (cs b z)) s1) λ_ k _=>?_;refine aU (k r) λH e' w=>?_;exact⟨H,e',λf=>(w.1 f).2 M,w.2⟩⟩
 have A:∀b,f.pv b->b∉(hP (frees scope.names) f.env).map (·.2)->∀o,ajz.heap.get? b=Y o->∃H,s'.heap.get? b=Y H/\H.data=o.data:=λb q nc o e=>by
  refine hY (i.g.dm b q) λun _ o2 e2 nf=>?_;rw[e]at e2;have zq:=UB e2;clear e2;subst zq;refine fw (N.keep b o e nc un) λ_ k _=>?_;refine aU (k (.inl nf)) λH e' w=>?_;exact⟨H,e',(w.1 nf).1⟩
 have nl:f.env.locals∉(hP (frees scope.names) f.env).map (·.2):=λz=>(VU.mp i.nd).1 (xS F i _ z);refine⟨S.g,?_,λx y e=>?_,λb h=>?_,λb q=>.inl (i.own b q),i.nd,i.kind,i.glob,i.lR,i.top⟩
 .refine VF i.ns λm hm=>?_;exact⟨m,Ns.data hm (A _ (i.own _ (.inl rfl)) nl)⟩
 .refine aU (i.vars x y e) λv I rv=>?_;have D:∀a,f.env.cells.lookup x=Y a->f.pv a:=λa j=>i.own _ (.inr (abz.mpr ⟨_,mem_of_lookup j,rfl⟩));have old:∀a,f.env.cells.lookup x=Y a->a∉(hP (frees scope.names) f.env).map (·.2)->∀v,ajz.heap.IsCell a (Y v)->s'.heap.IsCell a (Y v):=λa j nc v L=>IsCell.data L (A a (D a j) nc);have new:∀a,f.env.cells.lookup x=Y a->a∈(hP (frees scope.names) f.env).map (·.2)->∃w,s'.heap.IsCell a (Y w)/\Rel (aje.V (wide f C).pv) s'.heap w y:=λa j B=>by
   refine aU (abz.mp B) λp hp ep=>?_;refine a9 ((xR F i).mp hp) λQ hl=>?_;have ex:p.1=x:=aoy (Lj i) (mem_of_lookup hl) (ep▸mem_of_lookup j);rw[ex]at Q;refine aU (S.vars x y (kl x y (QH Q e))) λw G E=>?_;refine fw (F.2 x Q) λkc fr _=>?_;have k1:(jS f scope C).env.kindOf x=Y .cell:=IQ i.kind kc fr;unfold fq at G;rw[k1]at G;refine aU G λa' Z T=>?_;have:a'=a:=by
    have:=(M1 F i Q).symm.trans Z;rw[j]at this;exact(UB this).symm
   subst this;exact⟨w,T,E⟩
  have cell:(∃a,f.env.cells.lookup x=Y a/\ajz.heap.IsCell a (Y v))->∃w,(∃a,f.env.cells.lookup x=Y a/\s'.heap.IsCell a (Y w))/\Rel (aje.V (wide f C).pv) s'.heap w y:=λ⟨a,j,L⟩=>by
   by_cases B:a∈(hP (frees scope.names) f.env).map (·.2)
   .refine aU (new a j B) λw cw E=>?_;exact⟨w,⟨a,j,cw⟩,E⟩
   .exact⟨v,⟨a,j,old a j B v L⟩,rv.go g1⟩
  unfold fq at I
  split at I
  .rename_i q
   refine aU I λm hm em=>?_;refine⟨v,?_,rv.go g1⟩;unfold fq;rw[show(wide f C).env.kindOf x=Y .local from q];exact⟨m,Ns.data hm (A _ (i.own _ (.inl rfl)) nl),em⟩
  .rename_i q
   refine aU (cell I) λw h1 h2=>?_;exact⟨w,by unfold fq;rw[show(wide f C).env.kindOf x=Y .cell from q];exact h1,h2⟩
  .rename_i q
   refine aU (cell I) λw h1 h2=>?_;exact⟨w,by unfold fq;rw[show(wide f C).env.kindOf x=Y .free from q];exact h1,h2⟩
  .exact I.elim
 .by_cases B:b∈(hP (frees scope.names) f.env).map (·.2)
  .exact S.iB b B
  .refine VF (i.iB b h) λv L=>?_;exact⟨v,IsCell.data L (A b (i.own b (.inr h)) B)⟩
theorem Tr.TN(a:R c f l ajy ajz)(F:nV f scope l)(e:Tr f scope ajy ajz.heap aje h'):aQ f.P f.pv ajy ajz.heap aje h':=aQ.weak e λb h=>.inr (xS F a b h)
theorem I1{pv:VI->Prop}(a:adM C h h''):Go (aje.V λb=>pv b∨b=C) h (aje.V pv) h'' :=⟨VJ _,λ_ _=>rfl,λb o _ t q=>t (q.elim .inl λz=>.inr (.inl z)),λb o e t _=>⟨o,(a.2 b λz=>t (.inr (.inr z))).trans e,.rfl⟩⟩
theorem narrow(own:∀b,f.P b->f.pv b)(B:∀b,f.pv b->b≠C)(I:∀env∈f.fr,∀L,env.frame=Y L->f.pv L)(a:R c (wide f C) l aje s')(p:adM C s'.heap h''):R c f l aje { s' with heap:=h''}:=by
 have E:Go (aje.V λb=>f.pv b∨b=C) s'.heap (aje.V f.pv) h'':=I1 p;have M:aje.σ C=Sa:=(a.g.dm C (.inr rfl)).1;have N:c.base.get? C=Sa:=(a.g.dm C (.inr rfl)).2.1;have j:∀b,f.pv b->∀o,s'.heap.get? b=Y o->∃H,h''.get? b=Y H/\H.data=o.data:=λb q o e=>⟨o,(p.2 b (B b q)).trans e,rfl⟩;have G:Rg c f.n f.pv f.fr f.A aje { s' with heap:=h''}:=⟨λb o e=>(p.2 b λz=>by rw[z,N]at e;exact bN e).trans (a.g.stays b o e),frames_at (λenv he L T o e w=>⟨o,(p.2 L (B L (I env he L T))).trans e,w⟩) a.g.frames,a.g.stack,a.g.hand,a.g.depth,a.g.units,I,λb q=>by
   refine hY (a.g.dm b (.inl q)) λx y o e w=>?_;exact⟨x,y,o,(p.2 b (B b q)).trans e,w⟩,λi m e=>(a.g.objs i m e).go E λb q D o S _=>(p.2 b λz=>by rw[z,M]at D;exact bN D).trans S,λb q=>by
   refine nH (a.g.own b q) λx o y=>?_;exact⟨x,o,(p.2 b λz=>q (by rw[z];exact M)).trans y⟩,a.g.gens,a.g.os⟩
 refine⟨G,?_,λx y e=>?_,λb h=>?_,own,a.nd,a.kind,a.glob,a.lR,a.top⟩
 .refine VF a.ns λm hm=>?_;exact⟨m,Ns.data hm (j _ (own _ (.inl rfl)))⟩
 .refine aU (a.vars x y e) λv Z rv=>?_;exact⟨v,Z.data λb hb=>j b (own b hb),rv.go E⟩
 .refine VF (a.iB b h) λv Q=>?_;exact⟨v,IsCell.data Q (j b (own b (.inr h)))⟩
theorem aQ.but{P pv:VI->Prop}(x:aQ P pv ajy h₀ aje ajj)(m:lg P ajy h₀ C)(j:adM C ajj ajo):aQ P pv ajy h₀ aje ajo :=
 ⟨x.n,x.mu,λb o e p q=>by
  have h:b≠C:=λz=>m o (z▸e) (z▸p) (z▸q);refine wB (x.keep b o e p q) λa k i y e'=>?_;exact⟨a,λr=>aU (k r) λA e2 w=>⟨A,(j.2 b h).trans e2,w⟩,λz=>(j.2 b h).trans (i z),y,(j.2 b h).trans e'⟩⟩
theorem aQ.wide{P pv:VI->Prop}(x:aQ P pv ajy h₀ ajf ajj)(E:lg P ajy h₀ C)(y:aQ P (λb=>pv b∨b=C) ajf ajj ajg ajo):aQ P pv ajy h₀ ajg ajo:=by
 refine⟨VR x.n y.n,λk B=>(y.mu k (VT B x.n)).trans (x.mu k B),λb o e p q=>?_⟩;have L:b≠C:=λz=>E o (z▸e) (z▸p) (z▸q);refine wB (x.keep b o e p q) λs1 H G A m=>?_;refine hX (y.keep b A m p s1) λQ _ _ D=>?_;refine⟨Q,λr=>?_,λi=>(y.keep b o (G i) p s1).2.2.1 i,D⟩;refine aU (H r) λM e1 a=>?_;refine fw (y.keep b M e1 p s1) λ_ I _=>?_;refine aU (I (a.rv r)) λN e2 j=>?_;refine⟨N,e2,⟨λf=>⟨((j.1 (f.of (a.1 f).1)).1).trans (a.1 f).1,λh=>?_⟩,λC w=>⟨(j.2 C (a.2 C w).1).1,(a.2 C w).2.trans (j.2 C (a.2 C w).1).2⟩⟩⟩;have:=(a.1 f).2 h;subst this;exact(j.1 f).2 λz=>z.elim h L
end
def Draws(c:GC)(f:Fc)(tg:VC)(v:VD)(σ:Sg)(s:VE)(a:Nat->bp)(e:Nat->List MO->Prop):Prop :=∀{P:VD->VE->Prop}{E:VD->VE->Prop},(∀it fp (St:(VI->Prop)->Nat->Sg->WA->Prop) h' t,(∀f',nU c f' tg it fp (St f'.pv) a e)->D9 St->KR c it St->(∀b∈fp,s.heap.get? b=Sa)->s.heap.StaysIn h'->St f.pv 0 σ h'->P (.ref it) {s with heap:=h',toks:=t})-> wpAny (VL c.prog c.w) f.A (an2 v) P E s
def ky(c:GC)(f:Fc)(tg:VC)(e:VC)(l:Lc)(σ:Sg)(j:(Nat->bp)->(Nat->List MO->Prop)->Sg->Prop)(X:QX):Prop :=∀s,R c f l σ s->wpAny (VL c.prog c.w) f.A (eval e f.env) (λv s₁=>∃a b h,R c f l a s₁/\aQ f.P f.pv σ s.heap a s₁.heap/\Draws c f tg v a s₁ b h/\j b h a) (dI c f σ s λl' x i=>l'=l/\X x i) s
section
variable{c:GC}{f:Fc}{l:Lc}{σ aje:Sg}{s s':VE}{X:QX}{scope:akz}{tg:VC}
theorem Kq{w:(Nat->bp)->(Nat->List MO->Prop)->Sg->Prop}(h:bG c f e l σ (λx i=>∃a b,qI c f tg x i a b/\w a b i) X):ky c f tg e l σ w X:=λs y => cH (h s y) (λv s₁ x i r j m z=>oQ z λa b ok q=>⟨i,a,b,j,m,λk=>ok j r k,q⟩) λ_ _ p=>p
theorem Vx{M:(Nat->bp)->(Nat->List MO->Prop)->Sg->Prop}(hq:c.quiet=W)(S:noStar [e]=W)(h:bG c f (.Name x np) l σ (λy B=>y = .ty "range" /\ bG c f e l B (λz A=>∃n,z = .int n/\agb 0 n 1=W/\M (λi x _=>(i:Int)< VS 0 n 1/\x = .int i) (λi _=>VS 0 n 1<=(i:Int)) A) X) X): ky c f tg (.Call (.Name x np) [e] [] pos) l σ M X:=λs Q =>
 ama (cH (h s Q) (λv s₁ y B r G C ⟨N,H⟩=>by
  subst N;cases r.JZ;refine WD (EU (r:=[]) (dW.ty "range") S (s:=s₁) (UD H λA n sm q vs j L I rl=>?_) G) (λ_ _ p=>p) λ_ _ p=>p.after C;refine aU rl.qg λw m a=>?_;subst m;refine VF a.int_inv λtn m=>?_;subst m;refine call_range_1 ?_;have st:j.heap.StaysIn (j.heap.push { cls:=.type "range",data:=.fields #[.int 0 j.toks,.int n tn,.int 1 (j.toks+1)]}):=gu _ _;have D:=(L.grow st).tok (j.toks+1+1);refine⟨A,_,_,D,(C.trans I).trans (aQ.grow st),λ{P E} k=>?_,q⟩;refine aoB (aqN _ _ _ _ _ _ _) sm ?_;refine k _ _ (λ_=>Ao c _ (VS 0 n 1)) _ _ (λf'=>Nr hq) (λ{pv Z i σ aje h h'} x g T=>?_) (λ_ st h=>wpAny_pyIter_rangeiter st.2.2 h) uh (gu _ _) ⟨D.g.qd (VJ _),D.g.mV (VJ _),?_⟩
  .refine fw x λa b e=>?_;refine a9 (T _ _ e ⟨⟨_,rfl⟩,_,rfl,by decide⟩ a) λp q=>?_;exact⟨p,b,q⟩
  .unfold anU;rw[show VS 0 n 1 - ((0:Nat):Int)=VS 0 n 1 from aqy _];exact WQ _ rfl) λ_ _ p=>p)
structure vg (f:Fc) (scope:akz) (l:Lc) (x:Str):Prop where
 kind:scope.kind = .function
 names:∀y∈scope.names,y.2 = .local->scope.names.lookup y.1=Y .local
 cell:∀y∈scope.names,y.2 ≠ .cell
 free:nV f scope l
 x:scope.names.lookup x=Y .local
structure tI (f:Fc) (scope:akz) (f':Fc):Prop where
 n:f'.n=f.n
 sc:f'.env.scope=relabel scope f.env
theorem JT{m:Str->Option VD}(t:fO c.base a cls fl h)(I:h.Ns C m)(A:adM C h h''):fO c.base a cls fl h'':=by
 refine gS I λZ es S y x _=>?_;refine Df t λQ vs T N ts b B j D E G e H p i=>?_;have L:a≠C:=λz=>by rw[z,y]at b;have w:=UB b;clear b;subst w;rw[x]at j;exact kG j
 have M:T≠C:=λz=>by rw[z,y]at e;have w:=UB e;clear e;subst w;rw[x]at p;exact kG p
 exact⟨Q,vs,T,N,ts,(A.2 a L).trans b,B,j,D,E,G,(A.2 T M).trans e,H,p,i⟩
theorem aiq{pv:VI->Prop}{m:Str->Option VD}(T:dY c fl (aje.V λb=>pv b∨b=C) h (.ref a) x)(w:h.Ns C m)(j:adM C h h''):dY c fl (aje.V pv) h'' (.ref a) x:=by
 refine T.go (I1 j) λL G vs q e d k=>?_;have i:=akI q;clear q;subst i;refine gS (id w) λS es M A y _=>?_;have E:a≠C:=λz=>by rw[z,A]at e;have i:=UB e;clear e;subst i;rw[y]at d;exact kG d
 refine⟨G,vs,(j.2 a E).trans e,rfl,rfl,d,?_⟩;refine nJ T.lK λH I B N p Q D=>?_;rw[B]at e;have i:=UB e;clear e;subst i;rw[d]at p;have i:=amv p;clear p;subst i;rcases D with g|g|g
 .exact .inl g
 .exact .inr (.inl (JT g w j))
 .exact .inr (.inr (JT g w j))
theorem adw{h:WA}{a o:Obj}{b:VI}(q:b≠h.objs.size)(e:(h.push a).get? b=Y o):h.get? b=Y o:=by
 refine a9 (aoE.mp e) λe1 e2=>?_;refine aoE.mpr ⟨?_,e2⟩;have lt:=WK e;rw[aly]at lt;cases h with
 |_=>simpa[Heap.push,Array.getElem?_push,q]using e1
theorem Nh{use:Option (VD->Sem Unit)}{Q:List O->Nat->Sg->Prop}{PV:VD->VE->Prop}(hq:c.quiet=true)(ok:vg f scope l x)(l7:∀y,agc iter f.env y=pure y)(h:ky c f (.Name x px) iter l σ (λM Z j=>∀f',tI f scope f'->∀τ:Sg,τ.H=j.H++[.lst []]->∃n,Cp c f' x elt ifs (i4 (frees scope.names) l) j.H.length M Z (λacc E=>Q acc j.H.length E) X n 0 [] τ) X)(hR:R c f l σ s)(fin:∀acc k E I C v m,Q acc k E->R c (wide f C) l E I->aQ f.P f.pv σ s.heap E I.heap->lg f.P σ s.heap C->(∀b,f.pv b->b≠C)->I.heap.Ns C m->Rel (E.V (wide f C).pv) I.heap v (.ref k)-> EL (VL c.prog c.w) f.A (dI c f σ s λl' x aje=>l'=l/\X x aje) use PV v (alH scope (hP (frees scope.names) f.env) C f.env) (.ok .next) I): wpAny (VL c.prog c.w) f.A (comprehension (.ListComp elt [⟨.Name x px,iter,ifs,0⟩] scope pos) scope f.env (firstIterPos [⟨.Name x px,iter,ifs,0⟩] pos) (newList []) false (eval iter f.env) use) PV (dI c f σ s λl' x aje=>l'=l/\X x aje) s:=by
 refine abp rfl l7 (abc (ok.free.cell hR)) ok.kind ok.names ok.cell (QL (h s hR) (λv s₁ j M Z B ajh D q=>?_) λe s' p=>p);refine D λit fp St h' t zzW mv slf fr st st0=>?_;intro ajj C hC hn kp hD;obtain⟨hp,gs,dr,tk,os⟩:=s₁;have R2:R c f l j ⟨h',gs,dr,t,os⟩:=(B.grow st).tok t;have st:hp.StaysIn h':=st;have hC:C=h'.objs.size+1:=hC;have hD:ajj.get? h'.objs.size=some { cls:=.type "list",data:=.seq [].toArray}:=hD;have kp:∀b o,h'.get? b=some o->ajj.get? b=some o:=kp;refine fw (CT (vs:=[]) (xs:=[]) R2 .nil) λR3 ra S3=>?_;have kk:∀b o,(h'.push { cls:=.type "list",data:=.seq [].toArray}).get? b=some o->ajj.get? b=some o:=λb o e=>by
  by_cases q:b=h'.objs.size
  .subst q;rw[WQ _ rfl]at e;have zq:=UB e;clear e;subst zq;exact hD
  .exact kp b o (adw q e)
 have hC':C=(h'.push { cls:=.type "list",data:=.seq [].toArray}).objs.size:=by rw[aly];exact hC
 subst hC';have R4:R c (jS f scope (h'.push { cls:=.type "list",data:=.seq [].toArray}).objs.size) (i4 (frees scope.names) l) (j.add h'.objs.size (.lst []) none) ⟨ajj,gs,dr,t,os⟩:=abl (t:=t) R3 ok.free ok.kind hn kk;have G:hp.get? (h'.push { cls:=.type "list",data:=.seq [].toArray}).objs.size=none:=by
  cases q:hp.get? (h'.push { cls:=.type "list",data:=.seq [].toArray}).objs.size with
  |none=>rfl
  |some o =>
   have:=VX { cls:=.type "list",data:=.seq [].toArray} (st _ o q);rw[B6 (VJ _)]at this;exact bN this
 have hCD:h'.objs.size≠(h'.push { cls:=.type "list",data:=.seq [].toArray}).objs.size:=by rw[aly];exact abv (af5 _)
 have L:∀b o,h'.get? b=some o->b≠h'.objs.size/\b≠(h'.push { cls:=.type "list",data:=.seq [].toArray}).objs.size:=λb o e=>by
  have lt:=WK e;rw[aly];exact⟨abv lt,abv (Nat.lt_succ_of_lt lt)⟩
 have k1:h'.StaysIn ajj:=λb o e=>kk b o (VX _ e);generalize hkC:(h'.push { cls:=.type "list",data:=.seq [].toArray}).objs.size=C at hn R4 G hCD L ⊢;have ig:∀x y,(none:Option VI)=some x->y<=x:=λ_ _ e=>by exact bN e
 have tr0:Tr f scope j hp (j.add h'.objs.size (.lst []) none) ajj:=(aQ.grow st).trans (aQ.add (s:=⟨h',gs,dr,t,os⟩) R2.g k1 (VJ _) λx e=>ig x _ e);have pC:∀b,f.pv b->b≠C:=λb q z=>by
  refine hY (B.g.dm b q) λ_ _ o e _=>?_;rw[z]at e;rw[show(Shared.heap ⟨hp,gs,dr,tk,os⟩).get? C=none from G]at e;exact bN e
 have pr:=B.g.fy;have frC:lg f.P σ s.heap C:=lg.of ajh G;have g4:Go (j.V f.pv) h' ((j.add h'.objs.size (.lst []) none).V (jS f scope C).pv) ajj:=⟨by show _<=(j.H++[_]).length;simp[Sg.V],λi hi=>VP (abv hi),λb o e tt q=>by
   rcases q with q|q|q
   .exact tt (.inl λz=>q (by
     show(if b=h'.objs.size then _ else if some b=none then _ else j.σ b)=none;rw[VP (L b o e).1,VP (by simp)];exact z))
   .exact tt (.inr q)
   .exact(L b o e).2 q,λb o e _ _=>⟨o,k1 b o e,.rfl⟩⟩
 have st4:St (jS f scope C).pv 0 (j.add h'.objs.size (.lst []) none) ajj:=mv st0 g4 λb o e _ z=>⟨by
   show(if b=h'.objs.size then _ else if some b=none then _ else j.σ b)=none;rw[VP (L b o e).1,VP (by simp)];exact z,k1 b o e⟩
 have mu0:(j.add h'.objs.size (.lst []) none).μ j.H.length=h'.objs.size:=VY rfl;have wg:j.H.length < (j.add h'.objs.size (.lst []) none).H.length:=by show _ < (j.H++[_]).length;simp
 refine VF (q (jS f scope C) ⟨rfl,rfl⟩ (j.add h'.objs.size (.lst []) none) rfl) λn w=>?_;have hl:(i4 (frees scope.names) l).lookup x=none:=by
  cases e:(i4 (frees scope.names) l).lookup x with
  |none=>rfl
  |some y =>
   have:=(ok.free.2 x (RH e).1).2.1;rw[ok.x]at this;cases this
 have N:aky (VL c.prog c.w) f.A (.compLoop (.ListComp elt [⟨.Name x px,iter,ifs,0⟩] scope pos) 0 (.ref it) (.ref h'.objs.size) (jS f scope C).env) (EL (VL c.prog c.w) f.A (dI c f σ s λl' x aje=>l'=l/\X x aje) use PV (.ref h'.objs.size) (alH scope (hP (frees scope.names) f.env) C f.env)) ⟨ajj,gs,dr,t,os⟩:=by
  refine abn (f:=jS f scope C) (Tr:=λaje h2=>Tr f scope j hp aje h2/\j.H.length < aje.H.length/\aje.μ j.H.length=h'.objs.size) hq (zzW (jS f scope C)) (.inl (aoi ok.x)) hl
   ?_ ?_ ?_ ?_ n 0 [] R4 st4 ⟨tr0,wg,mu0⟩ wg mu0 w
  .exactλzq S=>fw zq λa b d=>⟨Tr.step G a S,VT b S.n,(S.mu _ b).trans d⟩
  .exactλzq k=>fw zq λa b d=>⟨aQ.fp a (λb hb o e=>by rw[show hp.get? b=none from fr b hb]at e;exact bN e) k,b,d⟩
  .intro acc aje s' q' R' zi0;refine fw zi0 λtr lt mu=>?_;refine VF R'.ns λm hm=>?_;refine fin acc j.H.length aje s' C _ m q' (Nj B ok.free G R' tr λ_ _ e=>e) (ajh.trans (tr.TN B ok.free)) frC pC hm ?_;rw[←mu];exact .ref lt
  .intro a y l' aje s' xq kl R' T tr zi0;refine fw zi0 λtt lt mu=>?_;refine VF R'.ns λm hm=>?_;refine⟨m,hm,λh'' sb=>?_⟩;have Rn:R c f l aje { s' with heap:=h''}:=narrow B.own pC pr (Nj B ok.free G R' tt kl) sb;have Tn:dY c f.fl (aje.V f.pv) h'' (.ref a) y:=aiq T hm sb;have trn:fO c.base a (.ref y.C) f.fl h'':=JT tr hm sb;have Sn:aQ f.P f.pv σ s.heap aje h'':=(ajh.trans (tt.TN B ok.free)).but frC sb;refine Jl (id trn) λoe vs T2 oT ts g1 g2 g3 g4 g5=>?_;unfold PySem.passOn;refine wpAny_bind (akB g1 g3 g4 ?_);rw[VP (show ¬((acm T2 == alE)=true) from by simp)];refine wpAny_bind (BZ (s:={ s' with heap:=h''}) (fr:=f.env.frame) Rn Tn trn (.inr rfl) λh2 R2' T3 _ S2=>?_);exact wpAny_throw ⟨y,l,aje,T3,R2',Sn.trans S2,rfl,xq⟩
 exact codeAny_compStart_list N (slf (f':=jS f scope C) (s:=⟨ajj,gs,dr,t,os⟩) R4 st4 N)
theorem Zp(hq:c.quiet=W)(ok:vg f scope l x)(l7:∀y,agc iter f.env y=pure y)(h:ky c f (.Name x px) iter l σ (λe i b=>∀f',tI f scope f'->∀z:Sg,z.H=b.H++[.lst []]->∃n,Cp c f' x elt ifs (i4 (frees scope.names) l) b.H.length e i (λacc a=>Q (.ref b.H.length) a) X n 0 [] z) X): bG c f (.ListComp elt [⟨.Name x px,iter,ifs,0⟩] scope pos) l σ Q X:=λs p=>by
 show wpAny _ _ (eval (.ListComp elt [⟨.Name x px,iter,ifs,0⟩] scope pos) f.env) _ _ _;rw[eval_ListComp];refine Nh (Q:=λacc k a=>Q (.ref k) a) hq ok l7 h p λacc k a B C v m q A S j D hm r=>?_;refine⟨m,hm,λh' w=>?_⟩;exact⟨.ref k,a,r.go (I1 w),narrow p.own D p.g.fy A w,S.but j w,q⟩
theorem XX{X:Lc->QX}(hq:c.quiet=W)(ok:vg f scope l x)(l7:∀y,agc iter f.env y=pure y)(G:amS (.ListComp elt [⟨.Name x px,iter,ifs,0⟩] scope pos) (Y (.Name y py)) spos.line (jy f.env.scope)=pure W)(hy:pD f y)(h:ky c f (.Name x px) iter l σ (λA B b=>∀f',tI f scope f'->∀N:Sg,N.H=b.H++[.lst []]->∃n,Cp c f' x elt ifs (i4 (frees scope.names) l) b.H.length A B (λacc a=>Q .next (cC y (.ref b.H.length) l) a) (X l) n 0 [] N) (X l)): dZ c f (al9 (.Assign [.Name y py] (.ListComp elt [⟨.Name x px,iter,ifs,0⟩] scope pos) spos) f.env) l σ Q X:=λs D=>by
 rw[exec_Assign_Name_used _ _ _ _ (by rw[aif];exact G)];refine wpAny_bind (akr (wpAny_bind ?_));show wpAny _ _ (do let _ ←comprehension (.ListComp elt [⟨.Name x px,iter,ifs,0⟩] scope pos) scope f.env (firstIterPos [⟨.Name x px,iter,ifs,0⟩] pos) (newList []) UA (eval iter f.env) (Y (ald (.Name y py) f.env))) _ _ s;refine wpAny_bind (WD (Nh (PV:=λ_ s'=>KG c f σ s Q .next s') (Q:=λacc k a=>Q .next (cC y (.ref k) l) a) (use:=Y (ald (.Name y py) f.env)) hq ok l7 h D λacc k a Z C v m q E S j L hm r=>?_) (λ_ s' p=>wpAny_pure (wpAny_pure p)) λ_ _ p=>p.up);show wpAny _ _ (ald (.Name y py) (wide f C).env v) _ _ _;refine assign_Name (zU (f:=wide f C) E r hy λs' T S2=>?_);have i:∃m,s'.heap.Ns C m:=by
  refine hY (E.g.dm C (.inr rfl)) λ_ _ o e I=>?_;have nP:¬(wide f C).P C:=λz=>L C (D.own C z) rfl;refine fw (S2.keep C o e nP (E.g.dm C (.inr rfl)).1) λ_ kp _=>?_;refine aU (kp (.inl I)) λo' e' w=>?_;refine⟨m,Ns.data hm λo2 e2=>?_⟩;rw[e]at e2;have zq:=UB e2;clear e2;subst zq;exact⟨o',e',(w.1 I).1⟩
 refine VF i λm' i=>?_;refine⟨m',i,λh' M=>?_⟩;exact⟨.next,_,a,trivial,narrow D.own L D.g.fy T M,(S.wide j S2).but j M,q⟩
end
end
section
open PySem PySem.W
noncomputable def gd{β:Type}(b:Bool)(y:Option β):Option β:=match b with|true=>y|false=>Sa
noncomputable def alt{β:Type}(a b:Option β):Option β:=match a with|some v=>Y v|none=>b
def oP{b:Type}(x:Option b)(K:b->Prop):Prop:=match x with|some a=>K a|none=>False
noncomputable def eO{b β:Type}(x:Option b)(f:b->Option β)(y:Option β):Option β:=match x with|some a=>f a|none=>y
def bP(b:Bool)(p:Prop):Prop:=match b with|true=>p|false=>False
def cP(b:Bool)(p q:Prop):Prop:=match b with|true=>p|false=>q
theorem gK{a:Type}{b:Bool}{x:Option a}{y:a}{P:Prop}(h:gd b x=Y y)(k:b=W->x=Y y->P):P:=by
 induction b using cB with|false=>cases h|true=>exact k rfl h
theorem aK{e:Type}{a b:Option e}{y:e}{P:Prop}(h:alt a b=Y y)(k:a=Y y->P)(f:b=Y y->P):P:=by
 induction a using cO with|none=>exact f h|some a=>exact k h
theorem oK{b:Type}{x:Option b}{K:b->Prop}{P:Prop}(h:oP x K)(k:∀a,x=Y a->K a->P):P:=by
 unfold oP at h;induction x using cO with|none=>exact apK h|some a=>exact k a rfl h
theorem oI{b:Type}{x:Option b}{K:b->Prop}{a:b}(h:x=Y a)(k:K a):oP x K:=by rw[h];unfold oP;exact k
theorem eK{b:Type}{x:Option b}{K:b->Prop}{p P:Prop}(h:eP x K p)(k:∀a,x=Y a->K a->P)(e:x=Sa->p->P):P:=by
 unfold eP at h;induction x using cO with|none=>exact e rfl h|some a=>exact k a rfl h
theorem Bc{e b:Type}{x:Option e}{f:e->Option b}{z:Option b}{y:b}{P:Prop}(h:eO x f z=Y y)(k:∀a,x=Y a->f a=Y y->P)(i:x=Sa->z=Y y->P):P:=by
 induction x using cO with|none=>exact i rfl h|some a=>exact k a rfl h
theorem cK{b:Bool}{p q P:Prop}(h:cP b p q)(k:b=W->p->P)(a:b=UA->q->P):P:=by
 unfold cP at h;induction b using cB with|false=>exact a rfl h|true=>exact k rfl h
theorem bE{b:Bool}{p P:Prop}(h:bP b p)(k:b=W->p->P):P:=by
 unfold bP at h;induction b using cB with|false=>exact apK h|true=>exact k rfl h
theorem bI(h:b=W)(k:p):bP b p:=by rw[h];unfold bP;exact k
theorem lT(h:cP W p q):p:=by unfold cP at h;exact h
theorem lS(h:cP UA p q):q:=by unfold cP at h;exact h
abbrev En:=List (Option O)
abbrev KX:=VI->List (Str×O)->List MO->Prop
abbrev KE:=VI->List (Str×O)->En->List MO->Prop
abbrev KF:=Fl->En->List MO->Prop
abbrev EM(a:Type):=En->List MO->(a->List MO->Prop)->KX->Prop
abbrev Fn:=List O->List MO->(bp)->KX->Prop
abbrev SM:=En->List MO->KF->KE->Prop
abbrev Bd:=List (Nat×List (AK×O))
noncomputable def tV:List Nat->List Nat->Bool
 | [],l=>(match l with | []=>W|_::_=>UA)
 |x::r,l=>match l with | []=>UA|y::q=>cond (VH x y) (tV r q) UA
def dF(a b:Str):Bool:=tV a.cps.toList b.cps.toList
def look{a:Type}(n:Str):List (Str×a)->Option a
 | []=>Sa
 |p::r=>cond (dF n p.1) (Y p.2) (look n r)
def fN(n:Str)(x:O):List (Str×O)->List (Str×O)
 | []=>[(n,x)]
 |p::r=>cond (dF p.1 n) ((p.1,x)::r) (p::fN n x r)
noncomputable def bx(a:Nat):List Nat->Bool
 | []=>UA
 |x::r=>cond (VH a x) W (bx a r)
noncomputable def eJ{b:Type}(a:Nat):List (Nat×b)->Option b
 | []=>Sa
 |p::r=>cond (VH a p.1) (Y p.2) (eJ a r)
noncomputable def b8{a:Type}(p:a->Bool):List a->Bool
 | []=>W
 |x::r=>cond (p x) (b8 p r) UA
noncomputable def Bf:Int->Int->Bool
 | .ofNat a,j=>(match j with | .ofNat b=>VH a b | .negSucc _=>UA)
 | .negSucc a,j=>(match j with | .ofNat _=>UA | .negSucc b=>VH a b)
def pK:AK->AK->Bool
 | .int a,y=>(match y with | .int b=>Bf a b | .str _=>UA)
 | .str a,y=>(match y with | .int _=>UA | .str b=>dF a b)
def zd(k:AK):List (AK×O)->Option O
 | []=>Sa
 |p::r=>cond (pK k p.1) (Y p.2) (zd k r)
noncomputable def one?{b:Type}:List b->Option b | []=>Sa|a::r=>(match r with | []=>Y a|_::_=>Sa)
noncomputable def w8{e:Type}:List e->Option (e×e)| []=>Sa|a::r=>(one? r).bind λb=>Y (a,b)
noncomputable def aI:O->Option Int | .int i=>Y i|_=>Sa
noncomputable def aS:O->Option Str | .str i=>Y i|_=>Sa
noncomputable def aT:O->Option (List O)| .tup i=>Y i|_=>Sa
noncomputable def aR:O->Option Nat | .ref i=>Y i|_=>Sa
noncomputable def aG:O->Option Nat | .gl i=>Y i|_=>Sa
noncomputable def K5:O->Option String | .bi i=>Y i|_=>Sa
noncomputable def xC:O->Option String | .ty i=>Y i|_=>Sa
noncomputable def aO:O->Option (Nat×List (Str×O))| .obj C i=>Y (C,i)|_=>Sa
noncomputable def aE:O->Option (Nat×List (Str×O))| .exc C i=>Y (C,i)|_=>Sa
noncomputable abbrev mL:MO->Option (List O):=mA
noncomputable def mD:MO->Option (List (Str×O))| .bu i=>Y i|_=>Sa
noncomputable def mI:MO->Option (Nat×List (Str×O))| .inst C i=>Y (C,i)|_=>Sa
noncomputable def mE:MO->Option (Nat×List (Str×O))| .exc C i=>Y (C,i)|_=>Sa
def ee{b:Type}(g:MO->Option b)(H:List MO)(x:O):Option (Nat×b):=(aR x).bind λk=>(H[k]?).bind λm=>(g m).bind λa=>Y (k,a)
noncomputable def qz(i:Int):Bool:=aca i.natAbs 4611686018427387904
noncomputable def bw{a:Type}:List a->Nat->Bool
 | [],_=>W
 |_::r,n=>match n with|0=>UA|n+1=>bw r n
def fits{a:Type}(l:List a):Bool:=bw l 60000
def jI{α:Type}(x y:O)(f:Int->Int->Option α):Option α:=(aI x).bind λa=>(aI y).bind λb=>f a b
def aX(x y:O)(H:List MO):Option O:=alt (jI x y λa b=>Y (.int (a+b))) (alt ((aS x).bind λa=>(aS y).bind λb=>gd (fits (a.cps.toList++b.cps.toList)) (Y (.str (a++b)))) ((listOf H x).bind λxs=>(listOf H y).bind λys=>gd (fits (xs++ys)) (Y (.lst (xs++ys)))))
def jN(x y:O)(_:List MO):Option O:=jI x y λa b=>Y (.int (a - b))
def qi(x y:O)(H:List MO):Option O:=alt (jI x y λa b=>alt (gd (qz a) (Y (.int (a * b)))) (gd (qz b) (Y (.int (a * b))))) ((listOf H x).bind λxs=>(aI y).bind λn=>gd (decide (0<=n)&&decide (n<=1000)&&bw xs 1000) (Y (.lst (qv n.toNat xs))))
def wz(x y:O)(_:List MO):Option O:=jI x y λa b=>gd (aca 0 b.natAbs&&aca b.natAbs 1073741824) (Y (.int (a.fdiv b)))
def qh(x y:O)(_:List MO):Option O:=jI x y λa b=>gd (aca 0 b.natAbs) (Y (.int (a.fmod b)))
def nG(x y:O)(_:List MO):Option O:=jI x y λa n=>gd (decide (0<=n)&&decide ((amE a:Int)* n<=2 ^ 27)) (Y (.int (a ^ n.toNat)))
def C7(x y:O)(_:List MO):Option O:=jI x y λa n=>gd (decide (0<=n)&&decide (n<=1000000)&&decide (a.natAbs < 2 ^ 64)) (Y (.int (a * 2 ^ n.toNat)))
def iX(x:O):Option O:=(aI x).bind λa=>Y (.int (-a))
noncomputable def bX:Bool->Bool|true=>UA|false=>W
noncomputable def cY:Nat:=50
def fM:Nat->PyData->Bool
 |0,_=>UA
 |n+1,d=>match d with
  | .none=>W
  | .bool _=>W
  | .int _=>W
  | .str s=>b8 (λx=>aca x 1114112) s.cps.toList
  | .tuple l=>b8 (fM n) l
  | .list l=>b8 (fM n) l
  | .dict _=>UA
def ji(x y:O)(H:List MO):Option Bool:=(toPy H cY x).bind λd=>(toPy H cY y).bind λe=>gd (fM cY d&&fM cY e) (Y (aaI d e))
def wd(x y:O)(H:List MO):Option Bool:=(listOf H x).bind λxs=>(listOf H y).bind λys=>gd (bX (VH xs.length ys.length)) (Y UA)
def bf(x y:O)(H:List MO):Option Bool:=alt (jI x y λa b=>Y (a == b)) (alt ((aS x).bind λa=>(aS y).bind λb=>Y (a == b)) (alt (wd x y H) (ji x y H)))
def dk(x y:O)(H:List MO):Option Bool:=(bf x y H).bind λb=>Y (!b)
def eL(x y:O)(_:List MO):Option Bool:=jI x y λa b=>Y (decide (a < b))
def mC(x y:O)(_:List MO):Option Bool:=jI x y λa b=>Y (decide (b < a))
def kh(x y:O)(_:List MO):Option Bool:=jI x y λa b=>Y (decide (b<=a))
def iW(x y:O)(_:List MO):Option Bool:=alt (jI x y λa b=>Y (decide (a<=b))) ((aS x).bind λa=>(aS y).bind λb=>Y (!decide (b.cps.toList < a.cps.toList)))
noncomputable def p8:O->Bool | .none=>W|_=>UA
def kj(x y:O)(_:List MO):Option Bool:=gd (p8 y) (Y x.isNone)
def Jj(x y:O)(_:List MO):Option Bool:=gd (p8 y) (Y (!x.isNone))
def keyOf(x:O):Option AK:=alt ((aI x).bind λi=>Y (.int i)) ((aS x).bind λs=>Y (.str s))
noncomputable def Th:AK->AK->Bool
 | .int _,y=>(match y with | .int _=>W | .str _=>UA)
 | .str _,y=>(match y with | .int _=>UA | .str _=>W)
noncomputable def adF(k:AK):List (AK×O)->Bool | []=>UA|p::_=>Th p.1 k
def AU(bd:Bd)(x y:O):Option (List (AK×O)×AK):=(aG x).bind λa=>(eJ a bd).bind λb=>(keyOf y).bind λk=>gd (adF k b) (Y (b,k))
def Il(x:O)(ys:List O)(H:List MO):Option Bool:=(toPy H cY x).bind λd=>(eQ (toPy H cY) ys).bind λds=>gd (b8 (fM cY) ds&&fM cY d) (Y (ds.any λy=>aaI y d))
noncomputable def uO{a:Type}:Option a->Bool|some _=>W|none=>UA
def zv(x y:O)(H:List MO):Option Bool:=alt ((aS y).bind λb=>(aS x).bind λa=>Y (!(abH b a 0 b.length 1).isEmpty)) (alt ((aT y).bind λys=>Il x ys H) (alt ((listOf H y).bind λys=>Il x ys H) ((ee mD H y).bind λq=>(aS x).bind λs=>Y (uO (look s q.2)))))
def cI(bd:Bd)(x y:O)(H:List MO):Option Bool:=alt ((AU bd y x).bind λq=>Y (uO (zd q.2 q.1))) (zv x y H)
def wA(x y:O)(H:List MO):Option Bool:=(zv x y H).bind λb=>Y (!b)
def idx(xs:List O)(y:O):Option O:=(aI y).bind λi=>gd (qz i) ((ahS i xs.length).bind λj=>xs[j]?)
def aN(bd:Bd)(x y:O)(H:List MO):Option O:=alt ((aT x).bind λxs=>idx xs y) (alt ((listOf H x).bind λxs=>idx xs y) (alt ((aS x).bind λs=>(aI y).bind λi=>gd (qz i) (((ahS i s.length).bind (s.cps[·]?)).bind λa=>Y (.str ⟨#[a]⟩))) (alt ((AU bd x y).bind λq=>zd q.2 q.1) ((ee mD H x).bind λq=>(aS y).bind λs=>look s q.2))))
def uZ(x:O):Option (Option Int):=alt (gd (p8 x) (Y Sa)) ((aI x).bind λi=>Y (Y i))
noncomputable def uL{a:Type}:Option a->Bool|none=>W|some _=>UA
def mF(x:O)(lo hi st:Option Int)(H:List MO):Option O :=alt ((aS x).bind λs=>gd (bX (st.getD 1 == 0)&&fits (zR s lo hi st).cps.toList) (Y (.str (zR s lo hi st)))) (alt ((listOf H x).bind λxs=>gd (bX (st == Y 0)&&fits xs) (Y (.lst (oS xs lo hi st)))) ((aT x).bind λxs=>hi.bind λb=>gd (uL lo&&uL st&&decide (0<=b)&&aca b.toNat xs.length&&fits xs) (Y (.tup (xs.take b.toNat)))))
noncomputable def w7:O->Option Bool
 | .bool b=>Y b
 | .none=>Y UA
 | .int i=>Y (i != 0)
 |_=>Sa
def ix(n:Str)(a es:List Nat)(x:O)(H:List MO):Option O:=alt ((aO x).bind λp=>gd (bx p.1 a) (look n p.2)) (alt ((aE x).bind λp=>gd (bx p.1 es) (look n p.2)) ((ee mI H x).bind λp=>gd (bx p.2.1 a) (look n p.2.2)))
def jM(x:O)(H:List MO):Option O:=alt ((listOf H x).bind λxs=>gd (fits xs) (Y (.int xs.length))) (alt ((aT x).bind λxs=>gd (fits xs) (Y (.int xs.length))) ((ee mD H x).bind λq=>gd (fits q.2) (Y (.int q.2.length))))
def M5(x:O)(H:List MO):Option Nat:=alt ((aO x).bind λp=>Y p.1) ((ee mI H x).bind λp=>Y p.2.1)
def zw(a:List Nat)(x y:O)(H:List MO):Option Bool:=alt ((aG y).bind λD=>gd (bx D a) (alt ((M5 x H).bind λC=>gd (bx C a) (Y (VH C D))) (gd (p8 x) (Y UA)))) ((xC y).bind λs=>gd (s == "str") (alt ((aS x).bind λ_=>Y W) ((listOf [] x).bind λ_=>Y UA)))
def toStr(i:Int):Option Str:=gd (decide (0<=i)&&decide (i < 100)) (Y (ano (toString i)))
def mH(n:Str)(a es:List Nat)(x v:O)(H:List MO):Option (List MO) :=alt ((ee mI H x).bind λp=>gd (bx p.2.1 a&&bw p.2.2 900) (Y (H.set p.1 (.inst p.2.1 (fN n v p.2.2))))) ((ee mE H x).bind λp=>gd (bx p.2.1 es&&bw p.2.2 900) (Y (H.set p.1 (.exc p.2.1 (fN n v p.2.2)))))
def putItem(x i v:O)(H:List MO):Option (List MO) :=alt ((ee mD H x).bind λp=>(aS i).bind λs=>gd (fits p.2) (Y (H.set p.1 (.bu (fN s v p.2))))) ((ee mL H x).bind λp=>(aI i).bind λi=>gd (decide (0<=i)&&aca i.toNat p.2.length&&fits p.2) (Y (H.set p.1 (.lst (p.2.set i.toNat v)))))
def yv(v:O)(H:List MO):Option (O×List MO):=(aR v).bind λk=>(H[k]?).bind λm=>(q7 m).bind λz=>Y (z,H.set k .dead)
noncomputable def upTo:Nat->Int->List O
 |0,_=>[]
 |n+1,i=>.int i::upTo n (i+1)
noncomputable def A4(l:List Nat):List O:=l.map λx=>.str ⟨#[x]⟩
noncomputable def zr:Nat->List O->List O
 |_,[]=>[]
 |i,x::r=>.tup [.int i,x]::zr (i+1) r
noncomputable def pR(is:List Nat)(e:En):Option En:=match is with
 | []=>some []
 |i::r=>((e[i]?).bind id).bind λv=>(pR r e).bind λq=>some (some v::q)
noncomputable def jK:Nat:=3000
def aL(v:O):EM O:=λ_ H K _=>K v H
def Loc(i:Nat):EM O:=λe H K _=>oP ((e[i]?).bind id) λv=>K v H
def Un(f:O->Option O)(a:EM O):EM O:=λe H K X=>a e H (λx H=>oP (f x) λv=>K v H) X
def two{h:Type}(f:O->O->List MO->Option h)(a b:EM O)(e:En)(H:List MO)(K:h->List MO->Prop)(X:KX):Prop:=a e H (λx H=>b e H (λy H=>oP (f x y H) λv=>K v H) X) X
def ao(f:O->O->List MO->Option O)(a b:EM O):EM O:=λe H K X=>two f a b e H K X
def gv(f:O->O->List MO->Option Bool)(a b:EM O):EM O:=λe H K X=>two f a b e H (λv H=>K (.bool v) H) X
def aF(f:O->O->List MO->Option Bool)(a b:EM O):EM Bool:=λe H K X=>two f a b e H K X
def Ea(a:EM O):EM O:=λe H K X=>a e H (λx H=>oP (w7 x) λb=>K (.bool (!b)) H) X
def jv(a:EM Bool):EM Bool:=λe H K X=>a e H (λb H=>K (!b) H) X
def cq(a:EM O):EM Bool:=λe H K X=>a e H (λx H=>oP (w7 x) λb=>K b H) X
def cQ(a b:EM Bool):EM Bool:=λe H K X=>a e H (λt H=>cP t (b e H K X) (K UA H)) X
def fA(a b:EM Bool):EM Bool:=λe H K X=>a e H (λt H=>cP t (K W H) (b e H K X)) X
def fX:EM Bool:=λ_ H K _=>K W H
def lN:EM Bool:=λ_ H K _=>K UA H
def Vy(t a b:EM Bool):EM Bool:=λe H K X=>t e H (λt H=>cP t (a e H K X) (b e H K X)) X
def cS(t:EM Bool)(a b:EM O):EM O:=λe H K X=>t e H (λt H=>cP t (a e H K X) (b e H K X)) X
def qD(a b:EM O):EM O:=λe H K X=>a e H (λx H=>oP (w7 x) λt=>cP t (b e H K X) (K x H)) X
def nZ(a b:EM O):EM O:=λe H K X=>a e H (λx H=>oP (w7 x) λt=>cP t (K x H) (b e H K X)) X
def MX(f g:O->O->List MO->Option Bool)(a b c:EM O)(e:En)(H:List MO)(K:Bool->List MO->Prop)(X:KX):Prop :=a e H (λx H=>b e H (λy H=>oP (f x y H) λt=>cP t (c e H (λz H=>oP (g y z H) λv=>K v H) X) (K UA H)) X) X
def qE(f g:O->O->List MO->Option Bool)(a b c:EM O):EM Bool:=λe H K X=>MX f g a b c e H K X
def Kj(f g:O->O->List MO->Option Bool)(a b c:EM O):EM O:=λe H K X=>MX f g a b c e H (λv H=>K (.bool v) H) X
def Args:List (EM O)->EM (List O)
 | []=>λ_ H K _=>K [] H
 |a::r=>λe H K X=>a e H (λx H=>Args r e H (λxs H=>K (x::xs) H) X) X
def aA(F:Fn)(as:List (EM O)):EM O:=λe H K X=>Args as e H (λxs H=>F xs H K X) X
def au(as:List (EM O)):EM O:=λe H K X=>Args as e H (λxs H=>bP (fits xs) (K (.tup xs) H)) X
def ar(as:List (EM O)):EM O:=λe H K X=>Args as e H (λxs H=>bP (fits xs) (K (.lst xs) H)) X
def gj(as:List (EM O)):EM O:=λe H K X=>Args as e H (λxs H=>bP (fits xs) (K (.ref H.length) (H++[.lst xs]))) X
def pf(fs:List (Str×O)):EM O:=λ_ H K _=>K (.ref H.length) (H++[.bu fs])
noncomputable def Dh:O->Bool | .bi _=>UA|_=>W
def aw(n:Str)(b es:List Nat)(a:EM O):EM O:=λe H K X=>a e H (λx H=>oP (ix n b es x H) λv=>bP (Dh v) (K v H)) X
def fB(a lo hi st:EM O):EM O:=λe H K X=>a e H (λx H=>lo e H (λl H=>hi e H (λh H=>st e H (λs H => oP (uZ l) λl=>oP (uZ h) λh=>oP (uZ s) λs=>oP (mF x l h s H) λv=>K v H) X) X) X) X
def Kl(D:List (Int×Int))(a:EM O):EM O:=λe H K X=>a e H (λx H=>oP ((aI x).bind λi=>D.find? λp=>p.1 == i) λp=>K (.int p.2) H) X
def aek(bd:Bd)(x y:O):Option Bool:=(aS x).bind λs=>(aG y).bind λd=>(eJ d bd).bind λa=>gd (a.all λp=>uK p.2) (Y (a.any λp=>uM s p.2))
def Ks(bd:Bd)(a o:EM O):EM O:=λe H K X=>two (λx y _=>aek bd x y) a o e H (λv H=>K (.bool v) H) X
def b7(a:EM O):EM O:=λe H K X=>a e H (λx H=>oP (jM x H) λv=>K v H) X
def ju(f:List Nat)(a b:EM O):EM O:=λe H K X=>two (zw f) a b e H (λv H=>K (.bool v) H) X
def ku(a:EM O):EM O:=λe H K X=>a e H (λx H=>oP (listOf H x) λxs=>bP (fits xs) (K (.tup xs) H)) X
def Yg(a:EM O):EM O:=λe H K X=>a e H (λx H=>oP (listOf H x) λxs=>bP (fits xs) (K (.ref H.length) (H++[.lst xs]))) X
def Au(a:EM O):EM O:=λe H K X=>a e H (λx H=>oP ((aI x).bind toStr) λs=>K (.str s) H) X
def ToInt(T:List (Str×Int))(a:EM O):EM O:=λe H K X=>a e H (λx H=>oP ((aS x).bind λs=>look s T) λi=>K (.int i) H) X
structure Tb where
 bd:Bd
 low:List (Str×Str)
 hex:List (Str×Nat)
 uj:Str
 gf:List (Str×List Str)
set_option genCtorIdx true in
inductive Bm where
 |app|pop|ext|idx|DT|sw|DP|low|gf
def Ij(d:O)(xs:List O)(H:List MO):Option O:=(toPy H cY d).bind λa=>(eQ (toPy H cY) xs).bind λds => gd (b8 (fM cY) ds&&fM cY a&&fits ds) ((ug a ds).bind λj=>Y (.int j))
noncomputable def RK(H:List MO)(o:Option O):Option (O×List MO):=o.bind λv=>Y (v,H)
def kC(T:Tb)(m:Bm)(x:O)(as:List O)(H:List MO):Option (O×List MO):=match m with
 | .app=>(ee mL H x).bind λq=>gd (fits q.2) ((one? as).bind λy=>Y (.none,H.set q.1 (.lst (q.2++[y]))))
 | .pop=>(ee mL H x).bind λq=>gd (fits q.2) (gd as.isEmpty ((q.2.getLast?).bind λv=>Y (v,H.set q.1 (.lst q.2.dropLast))))
 | .ext=>(ee mL H x).bind λq=>gd (fits q.2) ((one? as).bind λy=>(listOf H y).bind λys=>gd (fits (q.2++ys)) (Y (.none,H.set q.1 (.lst (q.2++ys)))))
 | .idx=>(ee mL H x).bind λq=>gd (fits q.2) ((one? as).bind λd=>RK H (Ij d q.2 H))
 | .DT=>(aT x).bind λxs=>(one? as).bind λd=>RK H (Ij d xs H)
 | .sw=>(aS x).bind λs=>(one? as).bind λy=>(aS y).bind λp=>Y (.bool (af6 s p),H)
 | .DP=>(aS x).bind λs=>(one? as).bind λy=>(aS y).bind λp=>gd (dF s T.uj) ((look p T.hex).bind λj=>Y (.int j,H))
 | .low=>(aS x).bind λs=>gd as.isEmpty ((look s T.low).bind λt=>Y (.str t,H))
 | .gf=>(aS x).bind λs=>(one? as).bind λy=>(aS y).bind λp=>gd (dF p ⟨⟨[32]⟩⟩) ((look s T.gf).bind λl=>Y (.lst (l.map .str),H))
noncomputable def kD:Bm->String×String×String
 | .app=>("list", "append", "list.append")| .pop=>("list", "pop", "list.pop")| .ext=>("list", "extend", "list.extend")| .idx=>("list", "index", "list.index")
 | .DT=>("tuple", "index", "tuple.index")| .sw=>("str", "startswith", "str.startswith")| .DP=>("str", "index", "str.index")| .low=>("str", "lower", "str.lower")| .gf=>("str", "split", "str.split")
noncomputable def AZ:Bm->Str
 | .app=>⟨⟨[97,112,112,101,110,100]⟩⟩| .pop=>⟨⟨[112,111,112]⟩⟩| .ext=>⟨⟨[101,120,116,101,110,100]⟩⟩| .idx=>⟨⟨[105,110,100,101,120]⟩⟩
 | .DT=>⟨⟨[105,110,100,101,120]⟩⟩| .sw=>⟨⟨[115,116,97,114,116,115,119,105,116,104]⟩⟩| .DP=>⟨⟨[105,110,100,101,120]⟩⟩| .low=>⟨⟨[108,111,119,101,114]⟩⟩| .gf=>⟨⟨[115,112,108,105,116]⟩⟩
def qB(x:O)(H:List MO):Option String:=alt ((ee mL H x).bind λ_=>Y "list") (alt ((aT x).bind λ_=>Y "tuple") ((aS x).bind λ_=>Y "str"))
def lu(n:Str)(t:String):List Bm->Option Bm
 | []=>Sa
 |m::r=>cond (dF n (AZ m)&&(kD m).1 == t) (Y m) (lu n t r)
noncomputable def n5:List Bm:=[.app,.pop,.ext,.idx,.DT,.sw,.DP,.low,.gf]
def C9(x:O)(H:List MO):Option (Nat×List (Str×O)):=alt (aO x) ((ee mI H x).bind λp=>Y p.2)
def nA(n:Str)(tab:List (Nat×Fn))(x:O)(H:List MO):Option Fn:=(C9 x H).bind λp=>(eJ p.1 tab).bind λF=>gd (uL (look n p.2)) (Y F)
def aM(T:Tb)(n:Str)(tab:List (Nat×Fn))(o:EM O)(as:List (EM O)):EM O:=λe H K X=>o e H (λx H=>eP (nA n tab x H) (λF=>Args as e H (λxs H=>F (x::xs) H K X) X) (oP ((qB x H).bind λt=>lu n t n5) λm=>Args as e H (λxs H=>oP (kC T m x xs H) λp=>K p.1 p.2) X)) X
def excIn(a:List Nat)(xs:List O)(H:List MO):Option (List MO):=match xs with
 | []=>Sa
 |x::r=>(ee mE H x).bind λp=>gd (bx p.2.1 a&&bw r 100) (Y (H.set p.1 (.exc p.2.1 p.2.2)))
def Kn(a:List Nat)(as:List (EM O)):EM O:=λe H K X=>Args as e H (λxs H=>oP (excIn a xs H) λH=>K .none H) X
def qQ(k:Nat)(z:O)(H:List MO):Option (List MO):=(H[k]?).bind λm=>(mL m).bind λacc=>gd (fits acc) (Y (H.set k (.lst (acc++[z]))))
def lY(k:Nat)(H:List MO)(K:bp):Prop:=oP ((H[k]?).bind mL) λxs=>K (.lst xs) (H.set k .dead)
def PU(ifs:List (EM Bool)):EM Bool:=match ifs with
 | []=>fX
 |t::_=>t
def xT(a:EM O)(fr:En)(j k:Nat)(K:List MO->Prop)(X:KX):Nat->Nat->List MO->Prop
 |0,_,_=>False
 |n+1,i,H=>oP ((H[j]?).bind mL) λys=>eP (ys[i]?) (λy=>a (some y::fr) H (λz H=>oP (qQ k z H) λH=>xT a fr j k K X n (i+1) H) X) (K H)
def pF(a:EM O)(ifs:List (EM Bool))(fr:En)(k:Nat)(K:List MO->Prop)(X:KX):List O->List MO->Prop
 | [],H=>K H
 |y::r,H=>PU ifs (some y::fr) H (λb H=>cP b (a (some y::fr) H (λz H=>oP (qQ k z H) λH=>pF a ifs fr k K X r H) X) (pF a ifs fr k K X r H)) X
@[irreducible] def tm(a:EM O)(fr:List Nat)(b:EM O):EM O:=λe H K X=>oP (pR fr e) λq=>a e H (λx H=>oP (ee mL H x) λp=>xT b q p.1 H.length (λG=>lY H.length G K) X jK 0 (H++[.lst []])) X
def Qm(x:O):Option (List O):=alt (aT x) (listOf [] x)
@[irreducible] def gw(b:EM (List O))(fr:List Nat)(a:EM O)(ifs:List (EM Bool)):EM O:=λe H K X=>oP (pR fr e) λq=>b e H (λys H=>pF a ifs q H.length (λG=>lY H.length G K) X ys (H++[.lst []])) X
def iQ(a:EM O):EM (List O):=λe H K X=>a e H (λx H=>oP (Qm x) λys=>K ys H) X
def qw(x:O):Option (List O):=(aI x).bind λn=>gd (decide (0<=n)&&decide (n < 60000)) (Y (upTo n.toNat 0))
def SrcR(a:EM O):EM (List O):=λe H K X=>a e H (λx H=>oP (qw x) λys=>K ys H) X
def xE(X:KE)(e:En):KX:=λC fs H=>X C fs e H
def bh:SM:=λe H K _=>K .next e H
def xi:SM:=λe H K _=>K .brk e H
def lJ(b:SM)(K:KF)(X:KE):KF:=λfl e H=>match fl with | .next=>b e H K X | .brk=>K .brk e H | .ret v=>K (.ret v) e H
def ak(a b:SM):SM:=λe H K X=>a e H (lJ b K X) X
def bA(i:Nat)(m:EM O):SM:=λe H K X=>m e H (λv H=>K .next (e.set i (Y v)) H) (xE X e)
noncomputable def nQ:List Nat->List O->En->Option En
 | [],vs,e=>(match vs with | []=>Y e|_::_=>Sa)
 |i::is,vs,e=>match vs with | []=>Sa|v::vs=>nQ is vs (e.set i (Y v))
def d8(is:List Nat)(m:EM O):SM:=λe H K X=>m e H (λv H=>oP ((aT v).bind λvs=>nQ is vs e) λe=>K .next e H) (xE X e)
def cW(n:Str)(a es:List Nat)(o m:EM O):SM:=λe H K X=>m e H (λv H=>o e H (λx H=>oP (mH n a es x v H) λH=>K .next e H) (xE X e)) (xE X e)
def qJ(o i m:EM O):SM:=λe H K X=>m e H (λv H=>o e H (λx H=>i e H (λj H=>oP (putItem x j v H) λH=>K .next e H) (xE X e)) (xE X e)) (xE X e)
def Lm(x j:O)(H:List MO):Option Int:=(ee mL H x).bind λp=>(idx p.2 j).bind aI
def UU(o i m:EM O):SM:=λe H K X=>o e H (λx H=>i e H (λj H=>oP (Lm x j H) λa=>m e H (λv H=>oP ((aI v).bind λb=>putItem x j (.int (a+b)) H) λH=>K .next e H) (xE X e)) (xE X e)) (xE X e)
def ba(m:EM O):SM:=λe H K X=>m e H (λ_ H=>K .next e H) (xE X e)
def aV(m:EM O):SM:=λe H K X=>m e H (λv H=>K (.ret v) e H) (xE X e)
def Eb:SM:=λe H K _=>K (.ret .none) e H
def aY(t:EM Bool)(a b:SM):SM:=λe H K X=>t e H (λt H=>cP t (a e H K X) (b e H K X)) (xE X e)
noncomputable def oM{a:Type}:List a->Bool | []=>UA|_::_=>W
def SE(a:List Nat)(v:O)(H:List MO):Option (Nat×Nat×List (Str×O)):=(ee mE H v).bind λp=>gd (bx p.2.1 a&&oM p.2.2) (Y p)
def gN(a:List Nat)(m:EM O):SM:=λe H _ X=>m e H (λv H=>oP (SE a v H) λp=>X p.2.1 p.2.2 e (H.set p.1 .dead)) (xE X e)
def mz(go:En->List MO->Prop)(K:KF):KF:=λfl e H=>match fl with | .next=>go e H | .brk=>K .next e H | .ret v=>K (.ret v) e H
def xf(t:EM Bool)(b:SM)(K:KF)(X:KE):Nat->En->List MO->Prop
 |0,_,_=>False
 |n+1,e,H=>t e H (λg H=>cP g (b e H (mz (xf t b K X n) K) X) (K .next e H)) (xE X e)
@[irreducible] def gm(t:EM Bool)(b:SM):SM:=λe H K X=>xf t b K X jK e H
inductive Tg where
 |nm (i:Nat)|tp (is:List Nat)
def zP(t:Tg)(v:O)(e:En):Option En:=match t with
 | .nm i=>Y (e.set i (Y v))
 | .tp is=>(aT v).bind λvs=>nQ is vs e
def forL(t:Tg)(b:SM)(K:KF)(X:KE):List O->En->List MO->Prop
 | [],e,H=>K .next e H
 |v::r,e,H=>oP (zP t v e) λe=>b e H (mz (forL t b K X r) K) X
def forR(t:Tg)(b:SM)(K:KF)(X:KE)(j:Nat)(en:Bool):Nat->Nat->En->List MO->Prop
 |0,_,_,_=>False
 |n+1,i,e,H=>oP ((H[j]?).bind mL) λys=>eP (ys[i]?) (λv=>oP (zP t (cond en (.tup [.int i,v]) v) e) λe=>b e H (mz (forR t b K X j en n (i+1)) K) X) (K .next e H)
def aac(s:Str):Option (List O):=gd (s.cps.all (· < 128)) (Y (A4 s.cps.toList))
def over(bd:Bd)(x:O):Option (List O):=alt (listOf [] x) (alt (aT x) (alt ((aS x).bind aac) ((aG x).bind λa=>(eJ a bd).bind λb=>Y (b.map λp=>p.1.av))))
@[irreducible] def jt(bd:Bd)(t:Tg)(m:EM O)(b:SM):SM:=λe H K X=>m e H (λx H=>eP (over bd x) (λys=>forL t b K X ys e H) (oP (aR x) λj=>forR t b K X j UA jK 0 e H)) (xE X e)
@[irreducible] def xo(t:Tg)(m:EM O)(b:SM):SM:=λe H K X=>m e H (λx H=>oP (qw x) λys=>forL t b K X ys e H) (xE X e)
@[irreducible] def xn(t:Tg)(m:EM O)(b:SM):SM:=λe H K X=>m e H (λx H=>eP (listOf [] x) (λys=>forL t b K X (zr 0 ys) e H) (oP (ee mL H x) λp=>forR t b K X p.1 W jK 0 e H)) (xE X e)
structure Hd where
 takes:List Nat
 others:List Nat
 slot:Nat
 o6:SM
noncomputable def clean(e:En):En:=e.map λ_=>Sa
def qU(K:KF):List Hd->Nat->List (Str×O)->En->List MO->Prop
 | [],_,_,_,_=>False
 |h::r,C,fs,e,H=>cP (bx C h.takes) (h.o6 (e.set h.slot (Y (.exc C fs))) H (λfl e H=>K fl (clean e) H) λ_ _ _ _=>False) (bP (bx C h.others) (qU K r C fs e H))
def KS(b:SM)(a:List Hd):SM:=λe H K X=>b e H K (qU K a)
def ME(a:Nat)(defs:List O)(xs:List O):Option (List O) :=gd (af0 a (xs.length+defs.length)&&af0 xs.length a) (Y (xs++defs.drop (xs.length+defs.length - a)))
noncomputable def dS(n:Nat):En:=acd n Sa
def zS(vs:List O)(n:Nat):En:=vs.map Y++dS n
def d6(K:bp):KF:=λfl _ H=>match fl with | .next=>K .none H | .brk=>False | .ret v=>K v H
def bl(e:Nat)(defs:List O)(a:Nat)(b:SM):Fn:=λxs H K X=>oP (ME e defs xs) λvs=>b (zS vs a) H (d6 K) λC fs _ H=>X C fs H
def I3(m:MO)(F:Fn):Fn:=λxs H K X=>F (.ref H.length::xs) (H++[m]) (λr G=>bP (p8 r) (K (.ref H.length) G)) X
def nT(C:Nat)(F:Fn):Fn:=I3 (.inst C []) F
def Ab(C:Nat)(F:Fn):Fn:=λxs H K X=>bP (bw xs 100) (I3 (.exc C []) F xs H K X)
def xr(F:Fn):Fn:=λxs H K X=>F xs H (λv H=>oP (yv v H) λp=>K p.1 p.2) X
theorem J4:gm t b e H K X=(xf t b K X jK e H):=by unfold gm;rfl
theorem B1:jt bd t m b e H K X=(m e H (λx H=>eP (over bd x) (λys=>forL t b K X ys e H) (oP (aR x) λj=>forR t b K X j UA jK 0 e H)) (xE X e)):=by unfold jt;rfl
theorem Og:xn t m b e H K X=(m e H (λx H=>eP (listOf [] x) (λys=>forL t b K X (zr 0 ys) e H) (oP (ee mL H x) λp=>forR t b K X p.1 W jK 0 e H)) (xE X e)):=by unfold xn;rfl
theorem Oh:xo t m b e H K X=(m e H (λx H=>oP (qw x) λys=>forL t b K X ys e H) (xE X e)):=by unfold xo;rfl
theorem xU{a:EM (List O)}{ifs:List (EM Bool)}{K:bp}:gw a fr elt ifs e H K X=(oP (pR fr e) λq=>a e H (λys H=>pF elt ifs q H.length (λG=>lY H.length G K) X ys (H++[.lst []])) X):=by unfold gw;rfl
theorem Nc{K:bp}:tm a fr elt e H K X=(oP (pR fr e) λq=>a e H (λx H=>oP (ee mL H x) λp=>xT elt q p.1 H.length (λG=>lY H.length G K) X jK 0 (H++[.lst []])) X):=by unfold tm;rfl
abbrev J(s:Str):EM O:=aL (.str s)
abbrev ah(i:Int):EM O:=aL (.int i)
abbrev ai:EM O:=Loc 0
abbrev ay:EM O:=Loc 1
abbrev aB:EM O:=Loc 2
abbrev aW:EM O:=Loc 3
abbrev bq:EM O:=Loc 4
abbrev bz:EM O:=Loc 5
abbrev bZ:EM O:=Loc 6
abbrev eV:EM O:=Loc 7
abbrev hU:EM O:=Loc 8
abbrev iH:EM O:=Loc 9
abbrev mx:EM O:=Loc 11
structure Cx where
 nm:List Str
 kd:List (Str×acE)
 gl:List (Str×O)
 fn:List (Nat×Fn)
 me:List (Str×List (Nat×Fn))
 cm:List (Nat×List (Str×Fn))
 at_:List (Str×(List Nat×List Nat))
 st:List (Str×(List Nat×List Nat))
 dK:List Nat
 eA:List Nat
 T:Tb
 it:List (Str×Int)
 hd:List (Nat×(List Nat×List Nat))
 qA:List (Nat×Nat)
 quiet:Bool
noncomputable def Cx.PL(c:Cx):Cx:={c with quiet:=UA,fn:=[],me:=[],cm:=[]}
noncomputable def tf:VC->Option Str | .Name x _=>Y x|_=>Sa
noncomputable def zZ:VC->Option Int | .Constant (.int i) _ _=>Y i|_=>Sa
noncomputable def UL:VC->Option Str | .Constant (.str i) _ _=>Y i|_=>Sa
noncomputable def DX:VC->Option (VC×Str×Pos)| .Attribute o n p=>Y (o,n,p)|_=>Sa
noncomputable def J5:VC->Option (VC×List VC×List aqb×Pos)| .Call f a k p=>Y (f,a,k,p)|_=>Sa
noncomputable def J7:VC->Option (List VC)| .Tuple es _ _=>Y es|_=>Sa
noncomputable def aiO:VC->Option (VC×VC)| .Subscript a b _=>Y (a,b)|_=>Sa
noncomputable def aiM:VC->Option (Option VC×Option VC×Option VC)| .Slice a b c _=>Y (a,b,c)|_=>Sa
noncomputable def aiJ:VC->Option (List (Option VC)×List VC)| .Dict a b _=>Y (a,b)|_=>Sa
noncomputable def J6:VC->Option (VC×List alK×akz×Pos)| .ListComp a b c d=>Y (a,b,c,d)|_=>Sa
noncomputable def kg{a:Type}:List a->Bool | []=>W|_::_=>UA
def posOf(x:Str):List Str->Option Nat
 | []=>Sa
 |y::r=>cond (dF x y) (Y 0) ((posOf x r).bind λn=>Y (n+1))
noncomputable def sM:Option acE->Bool|some .local=>W|_=>UA
noncomputable def uP:Option acE->Bool|some .cell=>W|_=>UA
noncomputable def Qs:Option acE->Bool|some .globalImplicit=>W|_=>UA
noncomputable def uQ:Option acE->Bool|some .free=>W|_=>UA
def P9(c:Cx)(x:Str):Bool:=sM (look x c.kd)||uP (look x c.kd)
def vR(c:Cx)(x:Str):Option O:=gd (Qs (look x c.kd)) (look x c.gl)
def QU(c:Cx)(x:Str):Option (EM O):=alt (gd (P9 c x) ((posOf x c.nm).bind λi=>Y (Loc i))) ((vR c x).bind λv=>Y (aL v))
def MD:anx->Option (O->O->List MO->Option O)
 | .Add=>Y aX | .Sub=>Y jN | .Mult=>Y qi | .FloorDiv=>Y wz | .Mod=>Y qh | .Pow=>Y nG | .LShift=>Y C7
 |_=>Sa
noncomputable def QY:anx->Bool
 | .FloorDiv=>W | .Mod=>W|_=>UA
def A8(bd:Bd):amh->Option (O->O->List MO->Option Bool)
 | .Eq=>Y bf | .NotEq=>Y dk | .Lt=>Y eL | .LtE=>Y iW | .Gt=>Y mC | .GtE=>Y kh | .Is=>Y kj | .IsNot=>Y Jj | .In=>Y (cI bd)| .NotIn=>Y wA
noncomputable def aen:amh->Bool | .In=>W|_=>UA
noncomputable def C2:VC->Bool
 | .Set ..=>UA
 |_=>W
def IM:List (Option VC)->List VC->Option (List (Int×Int))
 | [],vs=>gd (kg vs) (Y [])
 |k::ks,vs=>match vs with
  | []=>Sa
  |v::vs=>k.bind λk=>(zZ k).bind λi=>(zZ v).bind λj=>(IM ks vs).bind λr=>Y ((i,j)::r)
def CZ:List (Int×Int)->Bool
 | []=>W
 |p::r=>b8 (λq=>bX (p.1 == q.1)) r&&CZ r
def Iy(t:String)(c:Cx)(e:VC):Option VC:=(J5 e).bind λq=>(tf q.1).bind λx=>(vR c x).bind λg=>(xC g).bind λs=>gd (s == t&&kg q.2.2.1&&noStar q.2.1) (one? q.2.1)
def Qb(c:Cx)(e:VC):Option VC:=Iy "range" c e
def ael(c:Cx)(e:VC):Option VC:=Iy "enumerate" c e
def wZ(c:Cx)(x:Str):Option Nat:=gd (P9 c x) (posOf x c.nm)
def slotsOf(c:Cx):List VC->Option (List Nat)
 | []=>Y []
 |e::r=>(tf e).bind λx=>(wZ c x).bind λi=>(slotsOf c r).bind λis=>Y (i::is)
noncomputable def kf{a b:Type}(f:a->Option b):List a->Option (List b)
 | []=>Y []
 |x::r=>(f x).bind λy=>(kf f r).bind λys=>Y (y::ys)
def xO(c:Cx)(n:Str):Option Nat:=gd (uP (look n c.kd)) (posOf n c.nm)
def CD:List (Str×acE)->List (Str×acE)
 | []=>[]
 |p::r=>(p.1,cond (uQ (Y p.2)) .cell p.2)::CD r
def CC(c:Cx)(sc:akz)(x:Str):Cx:={c with nm:=x::frees sc.names,kd:=CD sc.names}
def wo:List Str->Bool
 | []=>W
 |x::r=>b8 (λy=>bX (dF x y)) r&&wo r
def uV(x:Str):Bool:=bX (dF x ⟨⟨[95,95,100,101,98,117,103,95,95]⟩⟩)&&bX (dF x ⟨⟨[95,95,99,108,97,115,115,100,105,99,116,95,95]⟩⟩)
def Tj(c:Cx)(sc:akz)(p:Str×acE):Bool:=cond (sM (Y p.2)) (sM (look p.1 sc.names)) (bX (uP (Y p.2))&&cond (uQ (Y p.2)) (uQ (look p.1 sc.names)&&uP (look p.1 c.kd)) W)
noncomputable def isFun:aoF->Bool | .function=>W|_=>UA
def To(c:Cx)(sc:akz)(x:Str):Bool:=isFun sc.kind&&b8 (Tj c sc) sc.names&&wo (x::frees sc.names)&&uV x&&sM (look x sc.names)
noncomputable def sI:VC->Bool
 | .ListComp ..=>W
 | .SetComp ..=>W
 | .DictComp ..=>W
 |_=>UA
structure Rc where
 E:Cx->VC->Option (EM O)
 T:Cx->VC->Option (EM Bool)
noncomputable def Be(r:Rc)(c:Cx)(e:Option VC):Option (EM O):=match e with
 |none=>Y (aL .none)
 |some e=>r.E c e
noncomputable def NB:PySem.Const->Option (EM O)
 | .int i=>Y (aL (.int i))
 | .str s=>Y (J s)
 | .bool b=>Y (aL (.bool b))
 | .none=>Y (aL .none)
 |_=>Sa
noncomputable def e2{β:Type}(r:Rc)(c:Cx)(a b:VC)(f:EM O->EM O->β):Option β:=(r.E c a).bind λa=>(r.E c b).bind λb=>Y (f a b)
noncomputable def e1{β:Type}(r:Rc)(c:Cx)(a:VC)(f:EM O->β):Option β:=(r.E c a).bind λa=>Y (f a)
def Nw(r:Rc)(c:Cx)(a:VC)(e:anx)(b:VC):Option (EM O):=gd (cond (QY e) c.quiet W) ((MD e).bind λf=>e2 r c a b (ao f))
def NL(r:Rc)(c:Cx)(b:am1)(a:VC):Option (EM O):=match b with
 | .USub=>e1 r c a (Un iX)
 | .Not=>e1 r c a Ea
 |_=>Sa
def Nx(r:Rc)(c:Cx)(e:anz)(es:List VC)(p:Pos):Option (EM O):=match es with
 | []=>Sa
 |a::l=>match l with
  | []=>r.E c a
  |b::l=>match e with | .And=>e2 r c a (.BoolOp e (b::l) p) qD | .Or=>e2 r c a (.BoolOp e (b::l) p) nZ
def E1{β:Type}(r:Rc)(c:Cx)(a:VC)(e:amh)(b:VC)(g:(O->O->List MO->Option Bool)->EM O->EM O->β):Option β:=gd (bX (amW e b)) ((A8 c.T.bd e).bind λf=>e2 r c a b (g f))
def E3{β:Type}(r:Rc)(c:Cx)(a:VC)(o:amh×amh)(q:VC×VC)(g:(O->O->List MO->Option Bool)->(O->O->List MO->Option Bool)->EM O->EM O->EM O->β):Option β :=gd (bX (aoz [o.1,o.2] [q.1,q.2])) ((A8 c.T.bd o.1).bind λf=>(A8 c.T.bd o.2).bind λf'=>(r.E c a).bind λa=>e2 r c q.1 q.2 (g f f' a))
def Qg(c:Cx)(a:amh)(b:VC):Option VC:=(J5 b).bind λq=>(DX q.1).bind λt => gd (aen a&&kg q.2.1&&kg q.2.2.1&&c.quiet&&qf t.1&&t.2.2.endLine == q.2.2.2.line&&dF t.2.1 ⟨⟨[118,97,108,117,101,115]⟩⟩) (Y t.1)
def NA(r:Rc)(c:Cx)(a:VC)(e:List amh)(rs:List VC):Option (EM O) :=alt ((one? e).bind λf=>(one? rs).bind λb=>alt ((Qg c f b).bind λo=>e2 r c a o (Ks c.T.bd)) (E1 r c a f b gv)) ((w8 e).bind λo=>(w8 rs).bind λq=>E3 r c a o q Kj)
def NF(r:Rc)(c:Cx)(t a b:VC):Option (EM O):=(r.T c t).bind λt=>e2 r c a b (cS t)
def NK(r:Rc)(c:Cx)(es:List VC):Option (EM O):=gd (noStar es) ((kf (r.E c) es).bind λas=>Y (au as))
def NG(r:Rc)(c:Cx)(es:List VC)(p:Pos):Option (EM O):=gd (noStar es) ((kf (r.E c) es).bind λas=>Y (cond (c.qA.contains (p.line,p.col)) (gj as) (ar as)))
def NC(ks:List (Option VC))(vs:List VC):Option (EM O):=alt (gd (kg ks&&kg vs) (Y (pf []))) ((one? ks).bind λk=>k.bind λk=>(UL k).bind λx=>(one? vs).bind λv=>(zZ v).bind λi=>Y (pf [(x,.int i)]))
def Nu(r:Rc)(c:Cx)(o:VC)(nm:Str):Option (EM O):=gd (qf o) ((look nm c.at_).bind λp=>e1 r c o (aw nm p.1 p.2))
noncomputable def NI(r:Rc)(c:Cx)(v:VC)(q:Option VC×Option VC×Option VC):Option (EM O):=(r.E c v).bind λv=>(Be r c q.1).bind λa=>(Be r c q.2.1).bind λb=>(Be r c q.2.2).bind λd=>Y (fB v a b d)
def ND(r:Rc)(c:Cx)(q:List (Option VC)×List VC)(i:VC):Option (EM O):=(IM q.1 q.2).bind λD=>gd (CZ D&&af0 D.length 15&&aca 0 D.length) (e1 r c i (Kl D))
def NJ(r:Rc)(c:Cx)(v i:VC):Option (EM O):=alt ((aiM i).bind λq=>NI r c v q) (alt ((aiJ v).bind λq=>ND r c q i) (e2 r c v i (ao (aN c.T.bd))))
def Nv(r:Rc)(c:Cx)(g:O)(b:List VC):Option (EM O) :=alt ((aG g).bind λa=>(eJ a c.fn).bind λF=>(kf (r.E c) b).bind λas=>Y (aA F as)) (alt ((K5 g).bind λs=>alt (gd (s == "len") ((one? b).bind λa=>e1 r c a b7)) (gd (s == "isinstance") ((w8 b).bind λq=>e2 r c q.1 q.2 (ju c.dK)))) ((xC g).bind λs=>(one? b).bind λa=>alt (gd (s == "tuple") (e1 r c a ku)) (alt (gd (s == "list") (e1 r c a Yg)) (alt (gd (s == "str") (e1 r c a Au)) (gd (s == "int") (e1 r c a (ToInt c.it)))))))
def NH(r:Rc)(c:Cx)(o:VC)(nm:Str)(a:List VC):Option (EM O):=(r.E c o).bind λo=>(kf (r.E c) a).bind λas=>Y (aM c.T nm ((look nm c.me).getD []) o as)
def Nz(r:Rc)(c:Cx)(g:O)(nm:Str)(a:List VC):Option (EM O) :=alt ((aG g).bind λC=>(eJ C c.cm).bind λt=>(look nm t).bind λF=>(kf (r.E c) a).bind λas=>Y (aA F as)) ((xC g).bind λs=>gd (s == "Exception" && dF nm ⟨⟨[95,95,105,110,105,116,95,95]⟩⟩) ((kf (r.E c) a).bind λas=>Y (Kn c.eA as)))
def Ny(r:Rc)(c:Cx)(e:VC)(a:List VC)(b:List aqb)(p:Pos):Option (EM O):=gd (kg b&&noStar a) (alt ((tf e).bind λx=>(vR c x).bind λg=>Nv r c g a) ((DX e).bind λt=>gd (qf t.1&&t.2.2.endLine == p.line&&aca a.length 30) (alt ((tf t.1).bind λy=>(vR c y).bind λg=>Nz r c g t.2.1 a) (NH r c t.1 t.2.1 a))))
def xY(r:Rc)(c:Cx)(a:VC):Option (EM (List O)):=eO (Qb c a) (λe=>e1 r c e SrcR) (e1 r c a iQ)
noncomputable def agk:VC->Option Pos | .Name _ p=>Y p|_=>Sa
def Qf(c:Cx)(a:VC):Bool:=match agk a with
 |some p=>c.qA.contains (p.line,p.col)
 |none=>UA
def UI(a:List alK):Option (Str×VC×List VC):=(one? a).bind λg=>(tf g.target).bind λx=>gd (g.is_async == 0) (Y (x,g.iter,g.ifs))
def xX(r:Rc)(c:Cx)(b:VC)(a:List alK)(sc:akz):Option (EM O):=(UI a).bind λq=>gd (c.quiet&&To c sc q.1&&C2 q.2.1) ((kf (xO c) (frees sc.names)).bind λis=>(r.E (CC c sc q.1) b).bind λm=>alt (gd (kg q.2.2) (cond (Qf c q.2.1) (e1 r c q.2.1 λs=>tm s is m) ((xY r c q.2.1).bind λs=>Y (gw s is m [])))) ((one? q.2.2).bind λt=>(r.T (CC c sc q.1) t).bind λt=>(xY r c q.2.1).bind λs=>Y (gw s is m [t])))
def OB(r:Rc)(c:Cx):VC->Option (EM O)
 | .Constant k _ _=>NB k
 | .Name x _=>QU c x
 | .BinOp a h b _=>Nw r c a h b
 | .UnaryOp h a _=>NL r c h a
 | .BoolOp h es p=>Nx r c h es p
 | .Compare a m rs _=>NA r c a m rs
 | .IfExp t a b _=>NF r c t a b
 | .Tuple es _ _=>NK r c es
 | .List es p=>NG r c es p
 | .Dict ks vs _=>NC ks vs
 | .Attribute o nm _=>Nu r c o nm
 | .Subscript v i _=>NJ r c v i
 | .Call w e l p=>Ny r c w e l p
 | .ListComp j f sc _=>xX r c j f sc
 |_=>Sa
def TV(r:Rc)(c:Cx)(a:VC)(e:List amh)(rs:List VC):Option (EM Bool) :=alt ((one? e).bind λf=>(one? rs).bind λb=>E1 r c a f b aF) ((w8 e).bind λo=>(w8 rs).bind λq=>E3 r c a o q qE)
noncomputable def t2(r:Rc)(c:Cx)(a b:VC)(f:EM Bool->EM Bool->EM Bool):Option (EM Bool):=(r.T c a).bind λa=>(r.T c b).bind λb=>Y (f a b)
def TU(r:Rc)(c:Cx)(b:anz)(es:List VC)(p:Pos):Option (EM Bool):=match es with
 | []=>(match b with | .And=>Y fX | .Or=>Y lN)
 |a::l=>match b with | .And=>t2 r c a (.BoolOp b l p) cQ | .Or=>t2 r c a (.BoolOp b l p) fA
def TX(r:Rc)(c:Cx)(t a b:VC):Option (EM Bool):=(r.T c t).bind λt=>t2 r c a b (Vy t)
noncomputable def TY(r:Rc)(c:Cx)(b:am1)(a:VC):Option (EM Bool):=match b with
 | .Not=>(r.T c a).bind λa=>Y (jv a)
 |_=>Sa
def OD(r:Rc)(c:Cx):VC->Option (EM Bool)
 | .UnaryOp e a _=>TY r c e a
 | .BoolOp e es p=>TU r c e es p
 | .Compare a f rs _=>TV r c a f rs
 | .IfExp t a b _=>TX r c t a b
 | .Name x p=>e1 r c (.Name x p) cq
 | .Call a b d p=>e1 r c (.Call a b d p) cq
 | .Attribute a b p=>e1 r c (.Attribute a b p) cq
 | .Subscript a b p=>e1 r c (.Subscript a b p) cq
 |_=>Sa
def rc:Nat->Rc
 |0=>⟨λ_ _=>Sa,λ_ _=>Sa⟩
 |n+1=>⟨OB (rc n),OD (rc n)⟩
def zk:List Nat->Bool
 | []=>W
 |x::r=>bX (bx x r)&&zk r
def zV(c:Cx)(t:VC):Option Tg:=alt ((tf t).bind λx=>(wZ c x).bind λi=>Y (.nm i)) ((J7 t).bind λes=>gd (noStar es) ((slotsOf c es).bind λis=>Y (.tp is)))
def JR:VC->Bool
 | .Tuple vs _ _=>cond (vs.all (foldedForSure 8)) W (bX (vs.all (constantsAlone 8)))
 |_=>W
abbrev Rs:=Cx->ajc->Option SM
noncomputable def mO(S:Rs)(c:Cx):List ajc->Option SM
 | []=>Y bh
 |s::r=>match r with
  | []=>S c s
  |_::_=>(S c s).bind λa=>(mO S c r).bind λb=>Y (ak a b)
noncomputable def UJ:ExceptHandler->Option (Str×Str×List ajc)| .ExceptHandler t x b _=>t.bind λt=>(tf t).bind λy=>x.bind λx=>gd (oM b) (Y (y,x,b))
def FH(S:Rs)(c:Cx):List ExceptHandler->Option (List Hd)
 | []=>Y []
 |h::r=>(UJ h).bind λq=>(vR c q.1).bind λg=>(aG g).bind λD=>gd (sM (look q.2.1 c.kd)) ((posOf q.2.1 c.nm).bind λi=>(eJ D c.hd).bind λp=>(mO S c.PL q.2.2).bind λm=>(FH S c r).bind λa=>Y (⟨p.1,p.2,i,m⟩::a))
def IJ(c:Cx)(x:Str)(px:Pos)(sc:akz)(p:Pos):Bool:=c.quiet&&sM (look x c.kd)&&(px.line == p.line)&&b8 (λq:Str×acE=>bX (dF q.1 x&&(sM (Y q.2)||uP (Y q.2)))) sc.names
def ahp(r:Rc)(c:Cx)(x:Str)(px:Pos)(v:VC):Option SM:=(wZ c x).bind λi=>eO (J6 v) (λq=>gd (IJ c x px q.2.2.1 q.2.2.2) (e1 r c v (bA i))) (gd (bX (sI v)) (e1 r c v (bA i)))
def SV(r:Rc)(c:Cx)(t v:VC):Option SM:=match t with
 | .Name x px=>ahp r c x px v
 | .Tuple es _ _=>gd (c.quiet&&noStar es&&bX (sI v)&&JR v) ((slotsOf c es).bind λis=>gd (zk is) (e1 r c v (d8 is)))
 | .Attribute o a _=>gd (bX (sI v)) ((look a c.st).bind λp=>e2 r c o v (cW a p.1 p.2))
 | .Subscript o i _=>gd (bX (sI v)) ((r.E c o).bind λo=>e2 r c i v (qJ o))
 |_=>Sa
noncomputable def isAdd:anx->Bool | .Add=>W|_=>UA
def SW(r:Rc)(c:Cx)(t:VC)(a:anx)(v:VC):Option SM:=(aiO t).bind λq=>(zZ q.2).bind λi=>gd (isAdd a) (e2 r c q.1 v λo m=>UU o (aL (.int i)) m)
def SY(r:Rc)(S:Rs)(c:Cx)(t it:VC)(b:List ajc):Option SM:=gd (c.quiet&&C2 it) ((zV c t).bind λtg=>(mO S c b).bind λb=>eO (Qb c it) (λe=>e1 r c e λm=>xo tg m b) (eO (ael c it) (λe=>(J7 t).bind λ_=>e1 r c e λm=>xn tg m b) (e1 r c it λm=>jt c.T.bd tg m b)))
def Tc(r:Rc)(c:Cx)(e:Option VC):Option SM:=match e with
 |none=>Y Eb
 |some e=>e1 r c e aV
def SX(r:Rc)(c:Cx)(e:VC):Option SM:=gd (bX (sI e)) (e1 r c e ba)
noncomputable def S9(r:Rc)(S:Rs)(c:Cx)(t:VC)(a b:List ajc):Option SM:=(r.T c t).bind λt=>(mO S c a).bind λa=>(mO S c b).bind λb=>Y (aY t a b)
noncomputable def Te(r:Rc)(S:Rs)(c:Cx)(t:VC)(b:List ajc):Option SM:=(r.T c t).bind λt=>(mO S c b).bind λb=>Y (gm t b)
def Ta(r:Rc)(c:Cx)(e:VC):Option SM:=gd (c.quiet&&oM c.eA) (e1 r c e (gN c.eA))
def Td(S:Rs)(c:Cx)(b:List ajc)(a:List ExceptHandler):Option SM:=gd (c.quiet&&oM a) ((mO S c b).bind λb=>(FH S c a).bind λa=>Y (KS b a))
def OC(r:Rc)(S:Rs)(c:Cx):ajc->Option SM
 | .Pass _=>Y bh
 | .Break _=>Y xi
 | .Return e _=>Tc r c e
 | .Expr e _=>SX r c e
 | .Assign ts v _=>(one? ts).bind λt=>SV r c t v
 | .AugAssign t i v _=>SW r c t i v
 | .If t a b _=>S9 r S c t a b
 | .While t b e _=>gd (kg e) (Te r S c t b)
 | .For t it b e _=>gd (kg e) (SY r S c t it b)
 | .Raise e f _=>e.bind λe=>gd (uL f) (Ta r c e)
 | .Try b h e g _=>gd (kg e&&kg g) (Td S c b h)
 |_=>Sa
noncomputable def rs(r:Rc):Nat->Rs
 |0=>λ_ _=>Sa
 |n+1=>OC r (rs r n)
def comp(n:Nat)(c:Cx)(b:List ajc):Option SM:=mO (rs (rc n) n) c b
end
section
open PySem PySem.W PyProof.Rows PySem.Calls PySem.Spec
theorem blt_eq(a b:Nat):aca a b=decide (a < b):=by rw[anM];simp[Nat.blt_eq]
theorem qT(h:aca a b=W):a < b:=by rw[blt_eq]at h;exact WE h
theorem oL(h:bX b=W):b=UA:=by induction b using cB with|false=>rfl|true=>exact bD h
theorem condT(h:cond b c UA=W):b=W/\c=W:=by induction b using cB with|false=>cases h|true=>exact⟨rfl,h⟩
theorem Fe:∀(a b:List Nat),tV a b=W↔a=b
 | [],[]=>by simp[tV]
 | [],_::_=>by simp[tV]
 |_::_,[]=>by simp[tV]
 |x::r,y::q=>by
  show cond (VH x y) (tV r q) UA=W↔_;constructor
  .intro h;refine a9 (condT h) λh1 h2=>?_;rw[VW h1,(Fe r q).mp h2]
  .intro h;injection h with h1 h2;subst h1;rw[alA];exact(Fe r q).mpr h2
theorem qV(a b:Str):dF a b=W↔a=b:=by
 unfold dF;rw[Fe];constructor
 .intro h;obtain⟨⟨a⟩⟩:=a;obtain⟨⟨b⟩⟩:=b;exact congrArg (λl=>(⟨⟨l⟩⟩: Str)) h
 .intro h;rw[h]
theorem n6(h:dF a b=W):a=b:=(qV a b).mp h
theorem vB(a b:Str):dF a b=(a == b):=by rw[anM,qV,akP]
theorem oH{e:Type}(n:Str):∀(l:List (Str×e)),look n l=l.lookup n:=by
 intro l;induction l with
 |nil =>
  exact rfl
 |cons b r a =>
  obtain⟨m,v⟩:=b;exact by
   show cond (dF n m) (Y v) (look n r)=_;rw[VZ,vB,a];cases n == m<;>rfl
theorem uT{a:Type}{l:List (Str×a)}{v:a}(h:look n l=Y v):l.lookup n=Y v:=by rw[←oH];exact h
theorem Ju(n:Str)(x:O):∀(l:List (Str×O)),fN n x l=cC n x l:=by
 intro l;induction l with
 |nil =>
  exact rfl
 |cons b r a =>
  obtain⟨m,v⟩:=b;exact by
   show cond (dF m n) ((m,x)::r) ((m,v)::fN n x r)=(if (m == n)=W then _ else _);rw[vB,a];cases m == n<;>rfl
theorem QO(a:Nat):∀(l:List Nat),bx a l=W↔a∈l:=by
 intro l;induction l with
 |nil =>
  exact by simp[bx]
 |cons x r b =>
  exact by
   show cond (VH a x) W (bx a r)=W↔_;rw[WM,←b,←ap1];show cond (VH a x) W (bx a r)=W↔VH a x=W∨_;cases VH a x<;>simp
theorem kX(h:bx a l=W):a∈l:=(QO a l).mp h
theorem xD{a:Type}{p:a->Bool}:∀{l:List a},b8 p l=W->∀x∈l,p x=W:=by
 intro l;induction l with
 |nil =>
  exact@λ_ x m=>nomatch m
 |cons y r f =>
  exact@λh x m=>by
   refine a9 (condT (b:=p y) (c:=b8 p r) h) λh1 h2=>?_;rcases WM.mp m with e|m
   .rw[e];exact h1
   .exact f h2 x m
theorem mU{a:Type}(p:a->Bool):∀(l:List a),b8 p l=l.all p:=by
 intro l;induction l with
 |nil =>
  exact rfl
 |cons x r b =>
  exact by show cond (p x) (b8 p r) UA=_;rw[b,amX];cases p x<;>rfl
theorem zm(b:Bool):bX b = !b:=by cases b<;>rfl
theorem ze{e:Type}{a b:Nat}{v w:e}{l:List (Nat×e)}{P:Prop}(h:eJ b ((a,v)::l)=Y w)(k:b=a->v=w->P)(f:eJ b l=Y w->P):P:=by
 have h:cond (VH b a) (Y v) (eJ b l)=Y w:=h;cases q:VH b a with
 |true=>rw[q]at h;exact k (VW q) (UB h)
 |false=>rw[q]at h;exact f h
theorem IP{e:Type}{a b:Str}{v w:e}{l:List (Str×e)}{P:Prop}(h:look b ((a,v)::l)=Y w)(k:b=a->v=w->P)(f:look b l=Y w->P):P:=by
 have h:cond (dF b a) (Y v) (look b l)=Y w:=h;cases q:dF b a with
 |true=>rw[q]at h;exact k (n6 q) (UB h)
 |false=>rw[q]at h;exact f h
theorem Bg(a b:Int):Bf a b=W↔a=b:=by
 cases a<;>cases b
 .exact(iff_of_eq ap1).trans ⟨λh=>congrArg Int.ofNat h,λh=>aqs h⟩
 .constructor<;>intro h<;>cases h
 .constructor<;>intro h<;>cases h
 .exact(iff_of_eq ap1).trans ⟨λh=>congrArg apo h,λh=>Int.negSucc.inj h⟩
theorem NT(a b:AK):pK a b=W↔a=b:=by
 cases a<;>cases b<;>first|(simp[pK,Bg,qV];done)|(simp[pK,Bg,qV];exact⟨λe=>e▸rfl,λe=>by cases e;rfl⟩)
theorem QC(k:AK):∀l:List (AK×O),zd k l=l.lookup k:=by
 intro l;induction l with
 |nil =>
  exact rfl
 |cons b r a =>
  obtain⟨x,v⟩:=b;exact by
   show cond (pK k x) (Y v) (zd k r)=_;rw[VZ,a];have:(k == x)=pK k x:=by rw[anM,NT,akP]
   rw[this];cases pK k x<;>rfl
theorem ahs(a b:AK):Th a b=zN a b:=by cases a<;>cases b<;>rfl
theorem gI{e:Type}{l:List e}{a:e}(h:one? l=Y a):l=[a]:=by
 induction l using cL with|nil=>cases h|cons b r=>induction r using cL with|nil=>have f:=UB h;clear h;subst f;rfl|cons _ _=>exact bN h
theorem xc{a:Type}{l:List a}{p:a×a}(h:w8 l=Y p):l=[p.1,p.2]:=by
 induction l using cL with|nil=>cases h|cons b r=>exact bK h λc e h=>by rw[gI e];have f:=UB h;clear h;subst f;rfl
theorem kY{a:Type}{l:List a}(h:kg l=W):l=[]:=by induction l using cL with|nil=>rfl|cons _ _=>exact bD h
theorem CI{a:Type}{x:Option a}(h:uL x=W):x=Sa:=by induction x using cO with|none=>rfl|some _=>exact bD h
theorem kz(h:aI x=Y i):x = .int i:=eT (K:=λi=>x = .int i) (by cases x<;>first|exact trivial|exact rfl) h
theorem gP(h:aS x=Y i):x = .str i:=eT (K:=λi=>x = .str i) (by cases x<;>first|exact trivial|exact rfl) h
theorem n0(h:aT x=Y i):x = .tup i:=eT (K:=λi=>x = .tup i) (by cases x<;>first|exact trivial|exact rfl) h
theorem Em(h:aR x=Y i):x = .ref i:=eT (K:=λi=>x = .ref i) (by cases x<;>first|exact trivial|exact rfl) h
theorem tM(h:aG x=Y i):x = .gl i:=eT (K:=λi=>x = .gl i) (by cases x<;>first|exact trivial|exact rfl) h
theorem K6(h:K5 x=Y i):x = .bi i:=eT (K:=λi=>x = .bi i) (by cases x<;>first|exact trivial|exact rfl) h
theorem AE(h:xC x=Y i):x = .ty i:=eT (K:=λi=>x = .ty i) (by cases x<;>first|exact trivial|exact rfl) h
theorem El{p:Nat×List (Str×O)}(h:aO x=Y p):x = .obj p.1 p.2:=eT (K:=λp=>x = .obj p.1 p.2) (by cases x<;>first|exact trivial|exact rfl) h
theorem ZU{p:Nat×List (Str×O)}(h:aE x=Y p):x = .exc p.1 p.2:=eT (K:=λp=>x = .exc p.1 p.2) (by cases x<;>first|exact trivial|exact rfl) h
theorem bT(h:cP b p True)(e:b=W):p:=by rw[e]at h;exact h
theorem v9(h:p8 x=W):x = .none:=bT (by cases x<;>first|exact trivial|exact rfl) h
theorem QM(h:mL m=Y l):m = .lst l:=eT (K:=λl=>m = .lst l) (by cases m<;>first|exact trivial|exact rfl) h
theorem IT(h:mD m=Y l):m = .bu l:=eT (K:=λl=>m = .bu l) (by cases m<;>first|exact trivial|exact rfl) h
theorem aff{p:Nat×List (Str×O)}(h:mI m=Y p):m = .inst p.1 p.2:=eT (K:=λp=>m = .inst p.1 p.2) (by cases m<;>first|exact trivial|exact rfl) h
theorem afe{p:Nat×List (Str×O)}(h:mE m=Y p):m = .exc p.1 p.2:=eT (K:=λp=>m = .exc p.1 p.2) (by cases m<;>first|exact trivial|exact rfl) h
theorem atK{b:Type}{g:MO->Option b}{H:List MO}{x:O}{p:Nat×b}{P:Prop}(h:ee g H x=Y p)(k:∀m,x = .ref p.1->H[p.1]?=Y m->g m=Y p.2->P):P :=bK h λi hi h=>bK h λm hm h=>bK h λa e h=>by have f:=UB h;clear h;subst f;exact k m (Em hi) hm e
theorem ui{H:List MO}{k:Nat}{m:MO}{l:List O}(h:H[k]?=Y m)(g:mL m=Y l):H[k]?=Y (.lst l):=by rw[h,QM g]
theorem zg(e:listOf H x=Y xs):x = .lst xs∨∃k,x = .ref k/\H[k]?=Y (.lst xs):=by
 cases x
 case lst=>have a:=UB e;clear e;subst a;exact .inl rfl
 case ref k=>exact .inr ⟨k,rfl,uS.mp e⟩
 all_goals exact bN e
theorem CS(e:listOf [] x=Y xs):x = .lst xs:=by
 cases x
 case lst=>have a:=UB e;clear e;subst a;rfl
 all_goals exact bN e
theorem Jw(e:listOf H y=Y ys)(h:eQ (toPy H cY) ys=Y ds):toPy H (cY+1) y=Y (.list ds):=by
 rcases zg e with e|⟨k,e,a⟩
 .rw[e];show(eQ (toPy H cY) ys).map amd=_;rw[h];rfl
 .rw[e];show(((H[k]?).bind zf).bind λxs=>(eQ (toPy H cY) xs).map amd)=_;rw[a];show(eQ (toPy H cY) ys).map amd=_;rw[h];rfl
theorem Tz:(60000:Nat)<=WI:=by decide
theorem c7{a:Type}:∀{l:List a}{n:Nat},bw l n=W->l.length<=n
 | [],n,_=>akQ n
 |_::r,0,h=>nomatch h
 |_::r,n+1,h=>akL (c7 (l:=r) h)
theorem c8{a:Type}:∀{l:List a}{n:Nat},l.length<=n->bw l n=W
 | [],n,_=>rfl
 |_::r,0,h=>absurd h (Nat.not_succ_le_zero _)
 |_::r,n+1,h=>c8 (l:=r) (air h)
theorem BY{a:Type}{l:List a}(h:fits l=W):l.length<=60000:=c7 h
theorem Fv{e:Type}{a b:List e}(h:fits (a++b)=W):a.length+b.length<=60000:=by rw[←VK];exact c7 h
theorem Lk{e:Type}{a b:List e}(h:fits (a++b)=W):a.length+b.length<=WI:=VR (Fv h) Tz
theorem ly{a:Type}{l:List a}(h:fits l=W):l.length<=WI:=VR (BY h) Tz
theorem TJ(h:qz a=W):a.natAbs < 4611686018427387904:=qT h
theorem TH(h:qz a=W):amE a<=64:=intBits_le_iff.mpr (aoG (TJ h) (by decide))
theorem o5{a:Int}(h:qz a=W): -(2 ^ 63)<=a/\a < 2 ^ 63 :=
 have l:((a.natAbs:Nat):Int)< 2 ^ 63:=akq.mpr (aoG (TJ h) (by decide))
 ⟨Int.neg_le_of_neg_le (aqA (Int.natAbs_neg a▸aqt) (anA l)),aoH aqt l⟩
theorem natAbs_pos{b:Int}(h:aca 0 b.natAbs=W):b≠0:=λe=>by rw[e]at h;exact bD h
theorem lG{e:Type}{x y:O}{f:Int->Int->Option e}{v:e}{P:O->O->Prop}(h:jI x y f=Y v)(k:∀a b,f a b=Y v->P (.int a) (.int b)):P x y :=bK h λa i h=>bK h λb hb h=>by rw[kz i,kz hb];exact k a b h
theorem DQ{e:Type}{x y:O}{f:Str->Str->Option e}{v:e}{P:O->O->Prop}(h:((aS x).bind λa=>(aS y).bind λb=>f a b)=Y v)(k:∀a b,f a b=Y v->P (.str a) (.str b)):P x y :=bK h λa i h=>bK h λb hb h=>by rw[gP i,gP hb];exact k a b h
section
variable{c:GC}
def jo(c:GC)(F:O->O->List MO->Option O)(t:VD->VD->Sem VD):Prop :=∀{f:Fc}{l:Lc}{σ:Sg}{Q:QV}{X:QX}{x y v:O},F x y σ.H=Y v->Q v σ->bV c f t x y l σ Q X
def gh(c:GC)(F:O->O->List MO->Option Bool)(t:VD->VD->Sem VD):Prop :=∀{f:Fc}{l:Lc}{σ:Sg}{Q:QV}{X:QX}{x y:O}{b:Bool},F x y σ.H=Y b->Q (.bool b) σ->bV c f t x y l σ Q X
theorem UW:jo c aX (aiV .Add):=λ{f l σ Q X x y v} h q=>aK h (λh=>lG (P:=λx y=>bV c f _ x y l σ Q X) h λa b h=>Wr (sK (P:=λv=>Q v σ) h.symm q)) λh=>aK h (λh=>DQ (P:=λx y=>bV c f _ x y l σ Q X) h λa b h=>gK h λz h=>Wt (sK (P:=λv=>Q v σ) h.symm q) (Lk z)) λh=>bK h λxs hx h=>bK h λys e h=>gK h λz h=>Ws hx e (Lk z) (sK (P:=λv=>Q v σ) h.symm q)
theorem U3:jo c jN (aiV .Sub):=λ{f l σ Q X x y v} h q=>lG (P:=λx y=>bV c f _ x y l σ Q X) h λa b h=>XB (sK (P:=λv=>Q v σ) h.symm q)
theorem U0:jo c qi (aiV .Mult):=λ{f l σ Q X x y v} h q=>aK h
 (λh=>lG (P:=λx y=>bV c f _ x y l σ Q X) h λa b h=>aK h (λh=>gK h λk h=>KC (sK (P:=λv=>Q v σ) h.symm q) (IntMulOk.of_left (TH k)))
  λh=>gK h λk h=>KC (sK (P:=λv=>Q v σ) h.symm q) (IntMulOk.of_right (TH k)))
 λh=>bK h λxs hx h=>bK h λn e h=>gK h λz h=>bt z λz m=>bt z λi j=>by
  rw[kz e];exact Xi hx (WE i) (WE j) (c7 m) (sK (P:=λv=>Q v σ) h.symm q)
theorem UX(hq:c.quiet=W):jo c wz (aiV .FloorDiv):=λ{f l σ Q X x y v} h q=>lG (P:=λx y=>bV c f _ x y l σ Q X) h λa b h=>gK h λz h=>bt z λe i=>WS hq (natAbs_pos e) (qT i) (sK (P:=λv=>Q v σ) h.symm q)
theorem UZ(hq:c.quiet=W):jo c qh (aiV .Mod):=λ{f l σ Q X x y v} h q=>lG (P:=λx y=>bV c f _ x y l σ Q X) h λa b h=>gK h λz h=>WT hq (natAbs_pos z) (sK (P:=λv=>Q v σ) h.symm q)
theorem U1:jo c nG (aiV .Pow):=λ{f l σ Q X x y v} h q=>lG (P:=λx y=>bV c f _ x y l σ Q X) h λa b h=>gK h λz h=>bt z λe i=>Xv (WE e) (WE i) (sK (P:=λv=>Q v σ) h.symm q)
theorem U2:jo c C7 (aiV .LShift):=λ{f l σ Q X x y v} h q=>lG (P:=λx y=>bV c f _ x y l σ Q X) h λa b h=>gK h λz h=>bt z λz j=>bt z λe i=>XA (WE e) (WE i) (WE j) (sK (P:=λv=>Q v σ) h.symm q)
theorem aaw{F}(h:MD op=Y F)(hq:QY op=W->c.quiet=W):jo c F (aiV op):=by
 cases op<;>first|(cases h;done)|skip
 .exact sK (P:=λF=>jo c F _) h UW
 .exact sK (P:=λF=>jo c F _) h U3
 .exact sK (P:=λF=>jo c F _) h U0
 .exact sK (P:=λF=>jo c F _) h (UZ (hq rfl))
 .exact sK (P:=λF=>jo c F _) h U1
 .exact sK (P:=λF=>jo c F _) h U2
 .exact sK (P:=λF=>jo c F _) h (UX (hq rfl))
theorem ah2(h:b8 (λx=>aca x 1114112) s.cps.toList=W):aqB s=W:=by
 unfold aqB;rw[←Array.all_toList,WO]
 exactλx m=>ab8 (qT (xD h x m))
theorem C6(i:∀d,fM n d=W->d.canLay0=W/\d.depth<=n):∀l:List PyData,b8 (fM n) l=W->afE l=W/\amz l<=n:=by
 intro l;induction l with
 |nil =>
  exact@λ_=>⟨rfl,akQ _⟩
 |cons d r e =>
  exact@λh=>by
   refine a9 (condT (b:=fM n d) (c:=b8 (fM n) r) h) λh1 h2=>?_;refine a9 (i d h1) λa b=>?_;refine a9 (e h2) λf j=>?_;exact⟨by simp[afE,a,f],by simp[amz];lia⟩
theorem sX:∀n d,fM n d=W->d.canLay0=W/\d.depth<=n
 |0,d,h=>nomatch h
 |n+1,.none,h=>⟨rfl,by simp[alY]⟩
 |n+1,.bool _,h=>⟨rfl,by simp[alY]⟩
 |n+1,.int _,h=>⟨rfl,by simp[alY]⟩
 |n+1,.str s,h=>⟨ah2 h,by simp[alY]⟩
 |n+1,.tuple l,h=>by have k:=C6 (sX n) l h;exact⟨k.1,by simp[alY];exact k.2⟩
 |n+1,.list l,h=>by have k:=C6 (sX n) l h;exact⟨k.1,by simp[alY];exact k.2⟩
 |n+1,.dict _,h=>nomatch h
theorem Rq{d:PyData}(h:fM cY d=W):ak3 d=W:=by
 have k:=sX _ _ h;have e:d.depth<=50:=k.2;unfold ak3;rw[k.1,Bool.true_and];exact ab8 (by lia)
theorem Rp(h:fM cY d=W):d.depth<=60:=VR (sX _ _ h).2 (by decide)
theorem RO{H:List MO}{x y:O}{b:Bool}{P:Prop}(h:ji x y H=Y b)(k:∀d e,toPy H cY x=Y d->toPy H cY y=Y e->ak3 d=W->ak3 e=W->b=aaI d e->P):P :=bK h λd a h=>bK h λe he h=>gK h λz h=>bt z λf i=>k d e a he (Rq f) (Rq i) (UB h).symm
theorem ln2{H:List MO}{x y:O}{b:Bool}{P:Prop}(h:wd x y H=Y b)(k:∀xs ys,listOf H x=Y xs->listOf H y=Y ys->xs.length≠ys.length->b=UA->P):P :=bK h λd a h=>bK h λe he h=>gK h λz h=>k d e a he (alq (oL z)) (UB h).symm
theorem K_eq:gh c bf (VV .Eq):=λ{f l σ Q X x y b} h q=>aK h (λh=>lG (P:=λx y=>bV c f _ x y l σ Q X) h λa b h=>Wx (sK (P:=λv=>Q (.bool v) σ) h.symm q)) λh=>aK h (λh=>DQ (P:=λx y=>bV c f _ x y l σ Q X) h λa b h=>WR (sK (P:=λv=>Q (.bool v) σ) h.symm q)) λh=>aK h (λh=>ln2 h λxs ys hx j m e=>Wy hx j m (e▸q)) λh=>RO h λd e i he s1 p e=>Wz _ _ i he s1 p (e▸q)
theorem Wa:gh c dk (VV .NotEq):=λ{f l σ Q X x y b} h q=>bK h λw h h2=>have q:=sK (P:=λv=>Q (.bool v) σ) h2.symm q;aK h
 (λh=>lG (P:=λx y=>bV c f _ x y l σ Q X) h λa b h=>Xj (sK (P:=λv=>Q (.bool (!v)) σ) h.symm q))
 λh=>aK h (λh=>DQ (P:=λx y=>bV c f _ x y l σ Q X) h λa b h=>Xo (sK (P:=λv=>Q (.bool (!v)) σ) h.symm q))
 λh=>aK h (λh=>ln2 h λxs ys hx j m e=>Xk hx j m (by rw[e]at q;exact q)) λh=>RO h λd e i he s1 p e=>Xm _ _ i he s1 p (e▸q)
theorem V9:gh c eL (VV .Lt):=λ{f l σ Q X x y v} h q=>lG (P:=λx y=>bV c f _ x y l σ Q X) h λa b h=>Xh (sK (P:=λv=>Q (.bool v) σ) h.symm q)
theorem V4:gh c mC (VV .Gt):=λ{f l σ Q X x y v} h q=>lG (P:=λx y=>bV c f _ x y l σ Q X) h λa b h=>WV (sK (P:=λv=>Q (.bool v) σ) h.symm q)
theorem V3:gh c kh (VV .GtE):=λ{f l σ Q X x y v} h q=>lG (P:=λx y=>bV c f _ x y l σ Q X) h λa b h=>WU (sK (P:=λv=>Q (.bool v) σ) h.symm q)
theorem V8:gh c iW (VV .LtE):=λ{f l σ Q X x y v} h q=>aK h (λh=>lG (P:=λx y=>bV c f _ x y l σ Q X) h λa b h=>Xe (sK (P:=λv=>Q (.bool v) σ) h.symm q)) λh=>DQ (P:=λx y=>bV c f _ x y l σ Q X) h λa b h=>Xg (sK (P:=λv=>Q (.bool v) σ) h.symm q)
theorem V5:gh c kj (VV .Is):=λ{f l σ Q X x y v} h q=>gK h λz h=>by rw[v9 z];exact Xc (sK (P:=λv=>Q (.bool v) σ) h.symm q)
theorem V7:gh c Jj (VV .IsNot):=λ{f l σ Q X x y v} h q=>gK h λz h=>by rw[v9 z];exact Xd (sK (P:=λv=>Q (.bool v) σ) h.symm q)
def lL(c:GC)(bd:Bd):Prop:=∀a b,eJ a bd=Y b->gZ c a b
theorem PY{H:List MO}{x:O}{ys:List O}{b:Bool}{P:Prop}(h:Il x ys H=Y b)(k:∀d ds,toPy H cY x=Y d->eQ (toPy H cY) ys=Y ds->afE ds=W->d.canLay0=W->d.depth<=60->b=(ds.any λy=>aaI y d)->P):P:=bK h λd e h=>bK h λds f h=>gK h λz h=>bt z λi a=>k d ds e f (C6 (sX _) _ i).1 (sX _ _ a).1 (Rp a) (UB h).symm
theorem Qd{a:Type}(o:Option a):uO o=o.isSome:=by cases o<;>rfl
theorem PX{f:Fc}{l:Lc}{σ:Sg}{x y:O}{b:Bool}(h:zv x y σ.H=Y b): (∀{Q:QV}{X:QX},Q (.bool b) σ->bV c f (VV .In) x y l σ Q X)/\(∀{Q:QV}{X:QX},Q (.bool (!b)) σ->bV c f (VV .NotIn) x y l σ Q X):=aK h
 (λh=>bK h λG hb h=>bK h λa C h=>by
  rw[gP hb,gP C];have h:=UB h;rw[←h];exact⟨Xa,Xs⟩)
 λh=>aK h (λh=>bK h λys B h=>PY h λd ds i j w z A e=>by rw[n0 B,e];exact⟨Xb _ _ i j w z A,Xu _ _ i j w z A⟩)
 λh=>aK h (λh=>bK h λys B h=>PY h λd ds i j w z A e=>by rw[e];exact⟨WZ _ _ i (Jw B j) w z A,Xr _ _ i (Jw B j) w z A⟩)
 λh=>bK h λp D h=>bK h λs E h=>atK D λm e hm g=>by
  rw[IT g]at hm;have h:=UB h;rw[Qd,oH]at h;rw[←h,gP E,e];exact⟨WY hm,Xq hm⟩
theorem Wb:gh c wA (VV .NotIn):=λ{f l σ Q X x y b} h q=>bK h λa h h2=>(PX h).2 (sK (P:=λv=>Q (.bool v) σ) h2.symm q)
theorem aeL(h:keyOf x=Y k):x=k.av:=aK h (λh=>bK h λi hi h=>by have a:=UB h;clear h;subst a;exact kz hi) λh=>bK h λi hi h=>by have a:=UB h;clear h;subst a;exact gP hi
theorem Mz{bd:Bd}(D:lL c bd){x y:O}{p:List (AK×O)×AK}{P:Prop}(h:AU bd x y=Y p)(k:∀a,x = .gl a->y=p.2.av->gZ c a p.1->(∃q r,p.1=q::r/\zN q.1 p.2=W)->P):P :=
 bK h λa f h=>bK h λe i h=>bK h λl b h=>gK h λz h=>by
  have j:=UB h;clear h;subst j;refine k a (tM f) (aeL b) (D _ _ i) ?_;induction e using cL with
  |nil=>exact bD z
  |cons q r=>exact⟨q,r,rfl,(ahs _ _).symm.trans z⟩
theorem V6{bd:Bd}(D:lL c bd):gh c (cI bd) (VV .In):=λ{f l σ Q X x y b} h q=>aK h
 (λh=>bK h λp e h=>Mz D e λa e1 e2 B ks=>by
  have h:=UB h;rw[Qd,QC]at h;rw[e1,e2];exact WX B ks (by rw[h];exact q))
 λh=>(PX h).1 q
theorem E4(D:lL c bd){F}(h:A8 bd op=Y F):gh c F (VV op):=by
 cases op
 .exact sK (P:=λF=>gh c F _) h K_eq
 .exact sK (P:=λF=>gh c F _) h Wa
 .exact sK (P:=λF=>gh c F _) h V9
 .exact sK (P:=λF=>gh c F _) h V8
 .exact sK (P:=λF=>gh c F _) h V4
 .exact sK (P:=λF=>gh c F _) h V3
 .exact sK (P:=λF=>gh c F _) h V5
 .exact sK (P:=λF=>gh c F _) h V7
 .exact sK (P:=λF=>gh c F _) h (V6 D)
 .exact sK (P:=λF=>gh c F _) h Wb
theorem PT{P:O->Prop}(h:idx xs y=Y v)(k:∀i j,qz i=W->ahS i xs.length=Y j->xs[j]?=Y v->P (.int i)):P y :=bK h λi hi h=>gK h λz h=>bK h λj a h=>by rw[kz hi];exact k i j z a h
theorem UY{bd:Bd}(D:lL c bd)(w b:VC):jo c (aN bd) (aki w b):=λ{f l σ Q X x y v} h q=>aK h
 (λh=>bK h λxs hx h=>PT (P:=λy=>bV c f _ x y l σ Q X) h λi j z e1 e2=>by rw[n0 hx];exact XI e1 (o5 z).1 (o5 z).2 e2 q)
 λh=>aK h (λh=>bK h λxs hx h=>PT (P:=λy=>bV c f _ x y l σ Q X) h λi j z e1 e2=>by
  rcases zg hx with e|⟨k,e,G⟩
  .rw[e];exact XF e1 (o5 z).1 (o5 z).2 e2 q
  .rw[e];exact XG G e1 (o5 z).1 (o5 z).2 e2 q)
 λh=>aK h (λh=>bK h λs C h=>bK h λi hi h=>gK h λz h=>bK h λH E h=>by
  rw[gP C,kz hi];exact XH (o5 z).1 (o5 z).2 E (sK (P:=λv=>Q v σ) h.symm q))
 λh=>aK h (λh=>bK h λp A h=>Mz D A λa e1 e2 B ks=>by rw[e1,e2];rw[QC]at h;exact XC B ks h q)
 λh=>bK h λp A h=>bK h λs C h=>atK A λm e hm g=>by rw[IT g]at hm;rw[e,gP C];exact XD hm (uT h) q
theorem Yc{f:Fc}{l:Lc}{σ:Sg}{Q:QV}{X:QX}{x v:O}{lo hi st:Option Int}{i a:VC}(h:mF x lo hi st σ.H=Y v)(q:Q v σ):vh c f i a x lo hi st l σ Q X:=aK h
 (λh=>bK h λs y h=>gK h λz h=>bt z λj m=>by rw[gP y];exact Wo (oL j) (ly m) (sK (P:=λv=>Q v σ) h.symm q))
 λh=>aK h (λh=>bK h λxs hx h=>gK h λz h=>bt z λj m=>by
  have p:st≠Y 0:=λe=>by rw[e]at j;exact bD j
  rcases zg hx with e|⟨k,e,w⟩
  .rw[e];exact Wm p (ly m) (sK (P:=λv=>Q v σ) h.symm q)
  .rw[e];exact Wn w p (ly m) (sK (P:=λv=>Q v σ) h.symm q))
 λh=>bK h λxs hx h=>bK h λb hb h=>gK h λz h=>bt z λz C=>bt z λz B=>bt z λz A=>bt z λj m=>by
  have e:b=(b.toNat:Int):=(aor (WE A)).symm;rw[n0 hx,CI j,CI m,hb,e];exact Wq (qT B) (ly C) (sK (P:=λv=>Q v σ) h.symm q)
end
structure xv (c:GC) (T:Tb):Prop where
 bd:lL c T.bd
 low:∀s t,look s T.low=Y t->t=apm s/\s.length<=5592405
 hex:∀p j,look p T.hex=Y j->∃rest,abH T.uj p 0 T.uj.length 1=j::rest
 gf:∀s l,look s T.gf=Y l->l=ant s ⟨⟨[32]⟩⟩/\s.length<=WI/\(alU s (abH s ⟨⟨[32]⟩⟩ 0 s.length (s.length+1)) 1).length<=WI
def Ah(T:List (Str×Int)):Prop:=∀s i,look s T=Y i->aoa s=Y i/\s.length<=640
structure Ag (K:af7) (dK:List Nat):Prop where
 self:∀D∈dK,isIn K (.ref D) D=W/\Kt K D/\kitOne K (.type "NoneType") (.ref D)=Y UA
 cz:∀C∈dK,∀D∈dK,C≠D->kin_not K C D=W
 str:kitOne K (.type "str") (.type "str")=Y W/\kitOne K (.type "list") (.type "str")=Y UA
def z8(K:af7)(nm:Str)(p:List Nat×List Nat):Prop:=(∀C∈p.1,jq K C/\tu K C nm)/\∀C∈p.2,Ac K C/\aga K (.ref C) nm=Y Sa
def Ar(K:af7)(nm:Str)(p:List Nat×List Nat):Prop:=(∀C∈p.1,jq K C/\tu K C nm) /\ ∀C∈p.2,aga K (.ref C) "__setattr__" = Y (Y (.builtin "object.__setattr__"))/\vC K C=W/\al4 K C nm=Y Sa/\akJ K C=W
def Ad(c:GC)(a:List Nat):Prop:=∀C∈a,∃b,tq c C b
section
variable{c:GC}{f:Fc}{l:Lc}{σ:Sg}{Q:QV}{X:QX}
theorem As{Q:QB}(h:w7 x=Y b)(q:Q b σ):lO c f x l σ Q X:=by
 cases x
 case bool=>exact xu (sK (P:=λb=>Q b σ) h.symm q)
 case none=>exact Ye (sK (P:=λb=>Q b σ) h.symm q)
 case int=>exact Yd (sK (P:=λb=>Q b σ) h.symm q)
 all_goals exact bN h
theorem Jq(h:Dh y=W):y.wq=W:=by cases y<;>first|rfl|exact bD h
theorem DZ{x:O}{p:Nat×Nat×List (Str×O)}{P:Prop}(h:ee mI σ.H x=Y p)(k:x = .ref p.1->σ.H[p.1]?=Y (.inst p.2.1 p.2.2)->P):P:=atK h λm e hm g=>k e (by rw[←aff g];exact hm)
theorem Eo{x:O}{p:Nat×Nat×List (Str×O)}{P:Prop}(h:ee mE σ.H x=Y p)(k:x = .ref p.1->σ.H[p.1]?=Y (.exc p.2.1 p.2.2)->P):P:=atK h λm e hm g=>k e (by rw[←afe g];exact hm)
theorem qC{x:O}{p:Nat×List O}{P:Prop}(h:ee mL σ.H x=Y p)(k:x = .ref p.1->σ.H[p.1]?=Y (.lst p.2)->P):P:=atK h λm e hm g=>k e (by rw[←QM g];exact hm)
theorem UP{x:O}{p:Nat×List (Str×O)}{P:Prop}(h:ee mD σ.H x=Y p)(k:x = .ref p.1->σ.H[p.1]?=Y (.bu p.2)->P):P:=atK h λm e hm g=>k e (by rw[←IT g];exact hm)
theorem US{nm:Str}{p:List Nat×List Nat}{x v:O}{b:Bool}(ok:z8 c.K nm p)(h:ix nm p.1 p.2 x σ.H=Y v)(j:Dh v=W)(q:Q v σ):qN c f (λv=>amK v nm b) x l σ Q X:=aK h
 (λh=>bK h λr i h=>gK h λz h=>by rw[El i];have a:=ok.1 _ (kX z);exact Wv a.1 a.2 (uT h) (Jq j) q)
 λh=>aK h (λh=>bK h λr i h=>gK h λz h=>by rw[ZU i];have a:=ok.2 _ (kX z);exact Wu a.1 a.2 (uT h) (Jq j) q)
 λh=>bK h λr i h=>gK h λz h=>DZ i λe m=>by rw[e];have a:=ok.1 _ (kX z);exact Ww m a.1 a.2 (uT h) (Jq j) q
theorem XT{nm:Str}{p:List Nat×List Nat}{x v:O}{A:List MO}{Q:Sg->Prop}(ok:Ar c.K nm p)(h:mH nm p.1 p.2 x v σ.H=Y A)(q:∀b:Sg,b.H=A->Q b):Aj c f (λv w=>aoK v nm w) x v l σ Q X:=aK h
 (λh=>bK h λr j h=>gK h λz h=>bt z λm y=>DZ j λe i=>by
  rw[e];have a:=ok.1 _ (kX m);exact Xw i a.1 a.2 (c7 y) λb e=>q b (by rw[e,←Ju];exact UB h))
 λh=>bK h λr j h=>gK h λz h=>bt z λm y=>Eo j λe i=>by
  rw[e];have a:=ok.2 _ (kX m);exact Xx i a.1 a.2.1 a.2.2.1 a.2.2.2 (c7 y) λb e=>q b (by rw[e,←Ju];exact UB h)
theorem KN{x i v:O}{p:List MO}{Q:Sg->Prop}(h:putItem x i v σ.H=Y p)(q:∀a:Sg,a.H=p->Q a):xt c f amL x i v l σ Q X:=aK h
 (λh=>bK h λr j h=>bK h λs A h=>gK h λz h=>UP j λe b=>by
  rw[e,gP A];exact Xy b (ly z) λa e=>q a (by rw[e,←Ju];exact UB h))
 λh=>bK h λr j h=>bK h λi hi h=>gK h λz h=>bt z λz y=>bt z λm w=>qC j λe b=>by
  have m:=WE m;have w:=qT w;have y:=BY y;rw[e,kz hi];exact Xz b m (by omega) (by omega) λa e=>q a (by rw[e];exact UB h)
theorem BX{a:Type}{l:List a}(h:fits l=W):l.length<=2 ^ 62:=VR (BY h) (by decide)
theorem Wc{x v:O}(h:jM x σ.H=Y v)(q:Q v σ):dX c f (.builtin "len") [x] l σ Q X:=aK h
 (λh=>bK h λxs hx h=>gK h λz h=>by
  rcases zg hx with e|⟨k,e,a⟩
  .rw[e];exact Vc (BX z) (sK (P:=λv=>Q v σ) h.symm q)
  .rw[e];exact Vd a (BX z) (sK (P:=λv=>Q v σ) h.symm q))
 λh=>aK h (λh=>bK h λxs hx h=>gK h λz h=>by rw[n0 hx];exact Ve (BX z) (sK (P:=λv=>Q v σ) h.symm q))
 λh=>bK h λr b h=>gK h λz h=>UP b λe a=>by rw[e];exact Vb a (BX z) (sK (P:=λv=>Q v σ) h.symm q)
theorem P1{x:O}{C:Nat}(h:M5 x σ.H=Y C):tw σ x C:=aK h
 (λh=>bK h λp a h=>by rw[El a];exact sK h .obj) λh=>bK h λp a h=>DZ a λe b=>by rw[e];exact sK h (.ref b)
theorem Vv(ok:Ag c.K dK)(h:zw dK x y σ.H=Y b)(q:Q (.bool b) σ):dX c f (.builtin "isinstance") [x,y] l σ Q X:=aK h
 (λh=>bK h λD j h=>gK h λm h=>by
  have d:=ok.self _ (kX m);rw[tM j];exact aK h (λh=>bK h λC i h=>gK h λz h=>by
   have h:=UB h;cases e:VH C D with
   |true=>rw[e]at h;rw[←h]at q;exact Va (VW e▸P1 i) d.1 q
   |false=>rw[e]at h;rw[←h]at q;exact U9 (P1 i) (ok.self _ (kX z)).2.1 (ok.cz _ (kX z) _ (kX m) (alq e)) q)
   λh=>gK h λz h=>by rw[v9 z];exact D1 (T:="NoneType") rfl rfl d.2.2 (sK (P:=λb=>Q (.bool b) σ) h.symm q))
 λh=>bK h λs p h=>gK h λz h=>by
  rw[AE p,eq_of_beq z];exact aK h (λh=>bK h λt a h=>by rw[gP a];exact D1 (T:="str") rfl rfl ok.str.1 (sK (P:=λb=>Q (.bool b) σ) h.symm q))
   λh=>bK h λt a h=>by rw[CS a];exact D1 (T:="list") rfl rfl ok.str.2 (sK (P:=λb=>Q (.bool b) σ) h.symm q)
theorem aaG(m:Bm):PlainAttrs (kD m).1/\Slot (kD m).1 (kD m).2.1 (kD m).2.2/\an6 (.builtin (kD m).2.2)=pure (.type "method_descriptor"):=by
 cases m
 .exact⟨ak7,anp,rfl⟩
 .exact⟨ak7,an7,rfl⟩
 .exact⟨ak7,anq,rfl⟩
 .exact⟨ak7,anI,rfl⟩
 .exact⟨PySem.F.plainAttrs_tuple,anu,rfl⟩
 .exact⟨alr,PySem.F.slot_str_startswith,rfl⟩
 .exact⟨alr,PySem.F.slot_str_index,rfl⟩
 .exact⟨alr,PySem.F.slot_str_lower,rfl⟩
 .exact⟨alr,alp,rfl⟩
theorem aaF(m:Bm):AZ m=((kD m).2.1:Str):=by cases m<;>decide +kernel
theorem PQ{H:List MO}{d v:O}{xs:List O}{P:Prop}(h:Ij d xs H=Y v)(k:∀a ds j,toPy H cY d=Y a->eQ (toPy H cY) xs=Y ds->afE ds=W->a.canLay0=W->a.depth<=60->ds.length < 2 ^ 60->ug a ds=Y j->v = .int j->P):P :=
 bK h λa h1 h=>bK h λds h2 h=>gK h λz h=>bt z λz m=>bt z λi b=>bK h λj e h =>
  k a ds j h1 h2 (C6 (sX _) _ i).1 (sX _ _ b).1 (Rp b) (aeF (BY m) (by decide)) e (UB h).symm
theorem aav{T:Tb}(ok:xv c T){m:Bm}{x:O}{as:List O}{p:O×List MO}(h:kC T m x as σ.H=Y p)(k:∀τ:Sg,τ.H=p.2->Q p.1 τ):dX c f (.builtin (kD m).2.2) (x::as) l σ Q X:=by
 have b:∀{v:O}{H:List MO},Y (v,H)=Y p->∀τ:Sg,τ.H=H->Q v τ:=λh τ e=>by have zq:=UB h;clear h;subst zq;exact k τ e
 cases m
 .exact bK h λq hq h=>gK h λz h=>qC hq λe w=>bK h λy i h=>by rw[e,gI i];exact Kg w (ly z) (b h)
 .exact bK h λq hq h=>gK h λz h=>qC hq λe w=>gK h λg h=>bK h λv B h=>by rw[e,anB.mp g];exact Vh w (ly z) B (b h)
 .exact bK h λq hq h=>gK h λz h=>qC hq λe w=>bK h λy i h=>bK h λys Z h=>gK h λg h=>by
   rw[e,gI i];rcases zg Z with e2|⟨k2,e2,N⟩
   .rw[e2];exact U6 w (Fv g) (b h)
   .rw[e2];exact U7 w N (Fv g) (b h)
 .exact bK h λq hq h=>gK h λz h=>qC hq λe w=>bK h λy i h=>bK h λv B h=>PQ B λpd ds j C D E G I a6 L M=>by
   rw[e,gI i];exact Vf (cY+1) cY (Jw (uS.mpr w) D) C E G I a6 L (by rw[←M];exact b h σ rfl)
 .exact bK h λxs hx h=>bK h λy i h=>bK h λv B h=>PQ B λpd ds j C D E G I a6 L M=>by
   rw[n0 hx,gI i];exact Vn _ _ D C E G I L (by rw[←M];exact b h σ rfl)
 .exact bK h λs A h=>bK h λy i h=>bK h λq hq h=>by rw[gP A,gI i,gP hq];exact Vl (b h σ rfl)
 .exact bK h λs A h=>bK h λy i h=>bK h λq hq h=>gK h λz h=>bK h λj hj h=>by
   rw[gP A,gI i,gP hq,n6 z];refine VF (ok.hex _ _ hj) λrest hr=>?_;exact Vi hr (b h σ rfl)
 .exact bK h λs A h=>gK h λz h=>bK h λt S h=>by
   rw[gP A,anB.mp z];have a:=ok.low _ _ S;exact Vj a.2 (by rw[←a.1];exact b h σ rfl)
 .exact bK h λs A h=>bK h λy i h=>bK h λq hq h=>gK h λz h=>bK h λt S h=>by
   rw[gP A,gI i,gP hq,n6 z];have a:=ok.gf _ _ S;exact Vk rfl a.2.1 a.2.2 (by rw[←a.1];exact b h σ rfl)
theorem aiw{x:O}{t:String}(h:qB x σ.H=Y t):vk σ x t:=aK h
 (λh=>bK h λp a h=>qC a λe b=>by rw[e];exact sK h (Or.inl ⟨_,b,rfl⟩))
 λh=>aK h (λh=>bK h λp a h=>by rw[n0 a];exact sK (P:=λt=>vk σ (.tup p) t) h rfl) λh=>bK h λp a h=>by rw[gP a];exact sK (P:=λt=>vk σ (.str p) t) h rfl
theorem acL:∀{l:List Bm},lu n t l=Y m->n=((kD m).2.1:Str)/\(kD m).1=t:=by
 intro l;induction l with
 |nil =>
  exact@λh=>by exact bN h
 |cons b r a =>
  exact@λh=>by
   have h:cond (dF n (AZ b)&&(kD b).1 == t) (Y b) (lu n t r)=Y m:=h;cases q:(dF n (AZ b)&&(kD b).1 == t) with
   |true=>rw[q]at h;exact sK (P:=λm=>n=((kD m).2.1:Str)/\(kD m).1=t) (show Y b=Y m from h) (bt q λe i=>⟨(n6 e).trans (aaF b),eq_of_beq i⟩)
   |false=>rw[q]at h;exact a h
end
abbrev QK{a:Type}(K:a->List MO->Prop):a->Sg->Prop:=λv b=>K v b.H
abbrev XK(X:KX):QX:=λx a=>X x.C x.fs a.H
def dM(c:GC)(n:Nat)(fv:VD)(F:Fn):Prop:=∀m,n<=m->∀xs σ K X,F xs σ.H K X->jV c m fv xs σ (QK K) (XK X)
theorem dM.up(h:dM c n fv F)(k:n<=n'):dM c n' fv F:=λm hm=>h m (VR k hm)
def dC(nm:List Str)(en:En)(l:Lc):Prop:=∀x i v,posOf x nm=Y i->en[i]?=Y (Y v)->l.lookup x=Y v
def nX(c:GC)(x:Str)(v:O):Prop:=∃w,(x == ("__debug__" : Str))=UA/\(c.mg x=Y w∨((∀a,v ≠ .gl a)/\c.mg x=Sa/\c.mb x=Y w))/\pj c w v
structure bU (c:GC) (f:Fc) (cx:Cx):Prop where
 kind:f.env.scope.kind = .function
 kd:∀x,f.env.kindOf x=look x cx.kd
 oJ:∀x i,posOf x cx.nm=Y i->(x == ("__debug__" : Str))=UA/\(x == ("__classdict__" : Str))=UA
 gl:∀x v,look x cx.gl=Y v->nX c x v
 fn:∀a F,eJ a cx.fn=Y F->dM c f.n (.ref a) F/\dW c (.ref a)
 me:∀n tab C F,look n cx.me=Y tab->eJ C tab=Y F->∃a,jq c.K C/\qM c.K C n a/\dM c f.n (.ref a) F/\dW c (.ref a)
 cm:∀C t n F,eJ C cx.cm=Y t->look n t=Y F->∃a mc,alC c.K (.ref C) "__getattribute__" = Y (Y (.builtin "type.__getattribute__"))/\anh c.K C mc=W/\ak9 c.K (.ref C) mc n=Y (.val (.ref a))/\dM c f.n (.ref a) F/\dW c (.ref a)
 ex:ak9 c.K (.type "Exception") (.type "type") "__init__" = Y (.val (.builtin "Exception.__init__"))
 at_:∀n p,look n cx.at_=Y p->z8 c.K n p
 st:∀n p,look n cx.st=Y p->Ar c.K n p
 dK:Ag c.K cx.dK
 eA:Ad c cx.eA
 T:xv c cx.T
 it:Ah cx.it
 hd:∀D p,eJ D cx.hd=Y p->(∀C∈p.1,pg c C D W)/\∀C∈p.2,pg c C D UA
 quiet:cx.quiet=W->c.quiet=W
def b6(c:GC)(f:Fc)(nm:List Str)(e:VC)(m:EM O):Prop:=∀en l σ K X,dC nm en l->m en σ.H K X->bG c f e l σ (QK K) (XK X)
def gA(c:GC)(f:Fc)(nm:List Str)(e:VC)(m:EM Bool):Prop:=∀en l σ K X,dC nm en l->m en σ.H K X->gk c f e l σ (QK K) (XK X)
def Ef(c:GC)(f:Fc)(nm:List Str)(es:List VC)(a:List (EM O)):Prop:=∀en l σ K X,dC nm en l->Args a en σ.H K X->i8 c f es l σ (QK K) (XK X)
structure cX (r:Rc):Prop where
 e:∀{c f cx},bU c f cx->∀{e m},r.E cx e=Y m->b6 c f cx.nm e m
 t:∀{c f cx},bU c f cx->∀{e m},r.T cx e=Y m->gA c f cx.nm e m
theorem wF:∀{nm:List Str}{i:Nat},posOf x nm=Y i->nm[i]?=Y x:=by
 intro nm;induction nm with
 |nil =>
  exact@λi h=>by exact bN h
 |cons y r b =>
  exact@λi h=>by
   have h:cond (dF x y) (Y 0) ((posOf x r).bind λn=>Y (n+1))=Y i:=h;cases q:dF x y with
   |true=>rw[q]at h;rw[n6 q];exact sK (P:=λi=>(y::r)[i]?=Y y) (show Y 0=Y i from h) rfl
   |false=>rw[q]at h;exact bK (show(posOf x r).bind _=Y i from h) λn a h=>sK (P:=λi=>(y::r)[i]?=Y x) h (by simpa using b a)
section
variable{c:GC}{f:Fc}{cx:Cx}{l:Lc}{σ:Sg}{Q:QV}{X:QX}{r:Rc}{nm:List Str}{en:En}
theorem xB.mono{t:Sem Bool}{Q i:QB}(H:xB c f t l σ Q X)(k:∀x a,Q x a->i x a)(m:∀x a,X x a->X' x a):xB c f t l σ i X':=λs j => hW (H s j) (λb s' a h S q=>⟨a,h,S,k _ _ q⟩) λe s' ⟨x,l',a,T,h,S,el,q⟩=>⟨x,l',a,T,h,S,el,m _ _ q⟩
theorem i8.mono:∀{es:List VC}{σ:Sg}{Q b:List O->Sg->Prop}{X X':QX},i8 c f es l σ Q X->(∀x a,Q x a->b x a)->(∀x a,X x a->X' x a)->i8 c f es l σ b X':=by
 intro es;induction es with
 |nil =>
  exact@λσ Q b X X' h k i=>k _ _ h
 |cons e r j =>
  exact@λσ Q b X X' h k i=>jW.mono h (λx m q=>j q (λxs m q=>k _ _ q) i) i
theorem b6.s{e:VC}{m:EM O}{K:bp}{X:KX}{G:QV}(S:b6 c f nm e m)(E:dC nm en l)(h:m en σ.H K X)(k:∀v a,K v a.H->G v a):bG c f e l σ G (XK X):=(S en l σ K X E h).mono k λ_ _ q=>q
theorem gA.s{e:VC}{m:EM Bool}{K:Bool->List MO->Prop}{X:KX}{G:QB}(S:gA c f nm e m)(E:dC nm en l)(h:m en σ.H K X)(k:∀v a,K v a.H->G v a):gk c f e l σ G (XK X):=(S en l σ K X E h).mono k λ_ _ q=>q
theorem Ef.s{e:List VC}{m:List (EM O)}{K:List O->List MO->Prop}{X:KX}{G:List O->Sg->Prop}(S:Ef c f nm e m)(E:dC nm en l)(h:Args m en σ.H K X)(k:∀v a,K v a.H->G v a):i8 c f e l σ G (XK X):=(S en l σ K X E h).mono k λ_ _ q=>q
theorem tK(i:sJ f x)(G:nX c x v)(h:Q v σ):bG c f (.Name x pos) l σ Q X:=by
 refine iY G λw e hm j=>?_;rcases hm with hm|⟨_,h1,h2⟩
 .exact Zs i hm j h e
 .intro s a;refine amq a.kind i (loadGlobal_builtin (mg:=c.mg) (mb:=c.mb) ?_ h1 ?_ h2 ⟨v,σ,j.here a.g,a,.refl,h⟩) e
  .rw[a.glob];exact c.top.g.keeps a.g.stays
  .rw[a.lR];exact c.top.b.keeps a.g.stays
theorem Zw(h:qP c f (amI (amr pos (alk elts f.env))) l σ (λxs a=>xs.length<=WI/\Q (.lst xs) a) X):bG c f (.List elts pos) l σ Q X:=λs j =>
 wpAny_List (wj (h s j) (λvs s₁ xs i r e b m=>a9 m λz q=>⟨by rw[r.length];exact z,(zl e r q).after b⟩) λ_ _ p=>p)
theorem Ej{Q:List O->Sg->Prop}(a:noStar es=W)(h:i8 c f es l σ Q X):qP c f (amI (amr pos (alk es f.env))) l σ Q X:=by
 rw[AS pos f.env a];exact Ei (Q:=Q) h
theorem y7(h:sM o=W):o=Y .local:=bT (by cases o with|none=>exact trivial|some k=>cases k<;>first|exact trivial|exact rfl) h
theorem IC(h:uP o=W):o=Y .cell:=bT (by cases o with|none=>exact trivial|some k=>cases k<;>first|exact trivial|exact rfl) h
theorem aeJ(h:Qs o=W):o=Y .globalImplicit:=bT (by cases o with|none=>exact trivial|some k=>cases k<;>first|exact trivial|exact rfl) h
theorem aeI(h:uQ o=W):o=Y .free:=bT (by cases o with|none=>exact trivial|some k=>cases k<;>first|exact trivial|exact rfl) h
theorem yx(ok:bU c f cx){x:Str}{g:O}{P:Prop}(h:vR cx x=Y g)(k:sJ f x->nX c x g->P):P:=gK h λz h=>k ((ok.kd x).trans (aeJ z)) (ok.gl _ _ h)
theorem ab5(ok:bU c f cx)(h:posOf x cx.nm=Y i):b6 c f cx.nm (.Name x pos) (Loc i):=λen l σ K X E h'=>oK h' λv a q=>bK a λo b a =>
 ZG (E _ _ _ h (by rw[b];exact congrArg Y a)) q (ok.oJ _ _ h).1 (ok.oJ _ _ h).2
theorem ab0(ok:bU c f cx){x:Str}{pos:Pos}{m:EM O}(h:QU cx x=Y m):b6 c f cx.nm (.Name x pos) m:=aK h (λh=>gK h λ_ h=>bK h λi hi h=>sK h (ab5 ok hi)) λh=>bK h λv e h=>sK h (yx ok e λa b en l σ K X E h=>tK a b h)
theorem abU{k:Const}(h:NB k=Y m):b6 c f nm (.Constant k q pos) m:=by
 cases k<;>first|(cases h;done)|refine sK (P:=λm=>b6 c f nm _ m) h ?_
 .exactλen l σ K X E h=>Zx h
 .exactλen l σ K X E h=>Zl h
 .exactλen l σ K X E h=>K3 h
 .exactλen l σ K X E h=>ZC h
theorem ie{i:Type}(H:cX r)(ok:bU c f cx){g:EM O->i}{m:i}{P:i->Prop}(h:e1 r cx a g=Y m)(k:∀b,b6 c f cx.nm a b->P (g b)):P m:=bK h λb h1 h=>sK h (k b (H.e ok h1))
theorem lW{j:Type}(H:cX r)(ok:bU c f cx){g:EM O->EM O->j}{m:j}{P:j->Prop}(h:e2 r cx a b g=Y m)(k:∀i mb,b6 c f cx.nm a i->b6 c f cx.nm b mb->P (g i mb)):P m:=bK h λi h1 h=>bK h λmb h2 h=>sK h (k i mb (H.e ok h1) (H.e ok h2))
theorem abO(H:cX r)(ok:bU c f cx)(h:Nw r cx a op b=Y m):b6 c f cx.nm (.BinOp a op b p) m :=
 gK h λz h=>bK h λF e h=>lW (P:=λm=>b6 c f cx.nm _ m) H ok h λw mb i hb en l σ K X E h =>
  Zk (i.s E h λx B h=>hb.s E h λy A h=>oK h λv j q=>aaw e (λn=>ok.quiet (by rw[n]at z;exact z)) j q)
theorem ab4(H:cX r)(ok:bU c f cx){a:VC}{w:am1}{p:Pos}{m:EM O}(h:NL r cx w a=Y m):b6 c f cx.nm (.UnaryOp w a p) m:=by
 cases w<;>first|(cases h;done)|skip
 .exact ie (P:=λm=>b6 c f cx.nm _ m) H ok h λz e en l σ K X E h=>K4 (e.s E h λx y h=>oK h λb hb q=>Xp (As hb q))
 .exact ie (P:=λm=>b6 c f cx.nm _ m) H ok h λz e en l σ K X E h=>K4 (e.s E h λx y h=>oK h λv j q=>bK j λi hi j=>by
   rw[kz hi];exact Xn (sK (P:=λv=>K v y.H) j.symm q))
theorem abP(H:cX r)(ok:bU c f cx){es:List VC}{w:anz}{p:Pos}{m:EM O}(h:Nx r cx w es p=Y m):b6 c f cx.nm (.BoolOp w es p) m:=by
 induction es using cL with
 |nil=>exact bN h
 |cons a l=>induction l using cL with
  |nil=>exactλen l σ K X E h'=>Zy (H.e ok h en l σ K X E h')
  |cons b l=>cases w with
   |And=>exact lW (P:=λm=>b6 c f cx.nm _ m) H ok h λy mb i hb en l σ K X E h=>Zi (i.s E h λx z h=>oK h λt j q=>As j (by
     induction t using cB with
     |true=>exact hb _ _ _ _ _ E (lT q)
     |false=>exact lS q))
   |Or=>exact lW (P:=λm=>b6 c f cx.nm _ m) H ok h λy mb i hb en l σ K X E h=>Zz (i.s E h λx z h=>oK h λt j q=>As j (by
     induction t using cB with
     |true=>exact lT q
     |false=>exact hb _ _ _ _ _ E (lS q)))
theorem UH{q}(h:J5 b=Y q):b = .Call q.1 q.2.1 q.2.2.1 q.2.2.2:=eT (K:=λq=>b = .Call q.1 q.2.1 q.2.2.1 q.2.2.2) (by cases b<;>first|exact trivial|exact rfl) h
theorem UG{t}(h:DX b=Y t):b = .Attribute t.1 t.2.1 t.2.2:=eT (K:=λt=>b = .Attribute t.1 t.2.1 t.2.2) (by cases b<;>first|exact trivial|exact rfl) h
theorem aer(ok:bU c f cx){P:amh->VC->Prop}(h:Qg cx op b=Y o)(k:∀a e,c.quiet=W->qf o=W->(a.endLine == e.line)=W->P .In (.Call (.Attribute o "values" a) [] [] e)):P op b :=
 bK h λq hq h=>bK h λt p h=>gK h λz h=>bt z λz D=>bt z λz C=>bt z λz B=>bt z λz A=>bt z λz y=>bt z λw x=>by
  have e1:=UH hq;have e2:=UG p;have j:op = .In:=bT (by cases op<;>first|exact trivial|exact rfl) w;have m:t.2.1=("values" : Str):=(n6 D).trans (by decide +kernel);have i:t.1=o:=UB h;rw[e1,e2,j,kY x,kY y,m,i];exact k t.2.2 q.2.2.2 (ok.quiet A) (by rw[←i];exact B) C
theorem M6{i:Type}(H:cX r)(ok:bU c f cx){g:(O->O->List MO->Option Bool)->EM O->EM O->i}{m:i}{P:i->Prop}(h:E1 r cx a op b g=Y m)(k:∀F e mb,amW op b=UA->gh c F (VV op)->b6 c f cx.nm a e->b6 c f cx.nm b mb->P (g F e mb)):P m:=gK h λz h=>bK h λF j h=>lW H ok h λe mb p hb=>k F e mb (oL z) (E4 ok.T.bd j) p hb
theorem M7{j:Type}(H:cX r)(ok:bU c f cx){o:amh×amh}{q:VC×VC}{g:(O->O->List MO->Option Bool)->(O->O->List MO->Option Bool)->EM O->EM O->EM O->j}{m:j}{P:j->Prop}(h:E3 r cx a o q g=Y m)(k:∀F G b mb i,aoz [o.1,o.2] [q.1,q.2]=UA->gh c F (VV o.1)->gh c G (VV o.2)->b6 c f cx.nm a b->b6 c f cx.nm q.1 mb->b6 c f cx.nm q.2 i->P (g F G b mb i)):P m:=gK h λz h=>bK h λF p h=>bK h λG w h=>bK h λb h1 h=>lW H ok h λmb i hb x=>k F G b mb i (oL z) (E4 ok.T.bd p) (E4 ok.T.bd w) (H.e ok h1) hb x
theorem abS(H:cX r)(ok:bU c f cx){a:VC}{j:List amh}{rs:List VC}{p:Pos}{m:EM O}(h:NA r cx a j rs=Y m):b6 c f cx.nm (.Compare a j rs p) m:=aK h
 (λh=>bK h λI A h=>bK h λb hb h=>by
  rw[gI A,gI hb];exact aK h (λh=>bK h λo e h=>aer (P:=λI b=>b6 c f cx.nm (.Compare a [I] [b] p) m) ok e λap cp hq h1 h2=>lW (P:=λm=>b6 c f cx.nm _ m) H ok h λD mb i hb en l σ K X E h =>
    Zu hq h1 h2 (i.s E h λx L h=>hb.s E h λy C h=>oK h λv e q=>bK e λs hs e=>bK e λd Z e=>bK e λB hk e=>gK e λM e =>
     ⟨s,d,B,gP hs,tM Z,ok.T.bd _ _ hk,M,sK (P:=λv=>K (.bool v) C.H) e.symm q⟩))
   λh=>M6 (P:=λm=>b6 c f cx.nm _ m) H ok h λF D mb hm w i hb en l σ K X E h=>Zo (i.s E h λx L h=>hb.s E h λy C h=>oK h λv e q=>w e q) hm)
 λh=>bK h λo A h=>bK h λq hq h=>by
  rw[xc A,xc hq];exact M7 (P:=λm=>b6 c f cx.nm _ m) H ok h λF G D mb mc hm w N i hb S en l σ K X E h=>Zn hm (i.s E h λx L h=>hb.s E h λy C h=>oK h λv e q=>w e (xu (by
   induction v using cB with
   |true=>exact S.s E (lT q) λz π h=>oK h λv e q=>N e q
   |false=>exact lS q)))
theorem abX(H:cX r)(ok:bU c f cx){t a b:VC}{p:Pos}{m:EM O}(h:NF r cx t a b=Y m):b6 c f cx.nm (.IfExp t a b p) m :=
 bK h λmt h1 h=>lW (P:=λm=>b6 c f cx.nm _ m) H ok h λi mb e hb en l σ K X E h=>Zt ((H.t ok h1).s E h λt j h=>by
  induction t using cB with
  |true=>exact e _ _ _ _ _ E (lT h)
  |false=>exact hb _ _ _ _ _ E (lS h))
theorem qR(H:cX r)(ok:bU c f cx):∀{es:List VC}{ms:List (EM O)},kf (r.E cx) es=Y ms->Ef c f cx.nm es ms:=by
 intro es;induction es with
 |nil =>
  exact@λms h=>sK h λen l σ K X E h=>h
 |cons x xs a =>
  exact@λms h=>bK h λm h1 h=>bK h λms h2 h=>sK h λen l σ K X E h=>(H.e ok h1).s E h λx i h=>(a h2).s E h λxs b h=>h
theorem ab3(H:cX r)(ok:bU c f cx){es:List VC}{k:Nat}{p:Pos}{m:EM O}(h:NK r cx es=Y m):b6 c f cx.nm (.Tuple es k p) m :=gK h λa h=>bK h λb h1 h=>sK h λen l σ K X E h=>ZF (Ej a ((qR H ok h1).s E h λxs e h=>bE h λz q=>⟨ly z,q⟩))
theorem abY(H:cX r)(ok:bU c f cx){es:List VC}{p:Pos}{m:EM O}(h:NG r cx es p=Y m):b6 c f cx.nm (.List es p) m :=
 gK h λb h=>bK h λi h1 h=>sK h (by
  cases cx.qA.contains (p.line,p.col) with
  |true=>exactλen l σ K X E h=>Zv (Ej b ((qR H ok h1).s E h λxs e h=>bE h λz q=>⟨ly z,λj a=>by rw[←a]at q;exact q⟩))
  |false=>exactλen l σ K X E h=>Zw (Ej b ((qR H ok h1).s E h λxs e h=>bE h λz q=>⟨ly z,q⟩)))
theorem DY{P:VC->Prop}(h:zZ e=Y i)(k:∀a b,P (.Constant (.int i) a b)):P e:=by
 refine s6 (eT (K:=λi=>∃a b,e = .Constant (.int i) a b) (by cases e<;>first|exact trivial|(rename_i q a b;cases q<;>first|exact trivial|exact⟨_,_,rfl⟩)) h) λa b h=>?_;rw[h];exact k a b
theorem aiN{P:VC->Prop}(h:UL e=Y i)(k:∀a b,P (.Constant (.str i) a b)):P e:=by
 refine s6 (eT (K:=λi=>∃a b,e = .Constant (.str i) a b) (by cases e<;>first|exact trivial|(rename_i q a b;cases q<;>first|exact trivial|exact⟨_,_,rfl⟩)) h) λa b h=>?_;rw[h];exact k a b
theorem abV{ks:List (Option VC)}(h:NC ks vs=Y m):b6 c f nm (.Dict ks vs p) m:=aK h
 (λh=>gK h λz h=>bt z λB C=>by
  rw[kY B,kY C];exact sK (P:=λm=>b6 c f nm _ m) h λen l σ K X E h=>Zq λw e=>by show K (.ref σ.H.length) w.H;rw[e];exact h)
 λh=>bK h λk y h=>bK h λI j h=>bK h λx hx h=>bK h λv A h=>bK h λi hi h=>by
  rw[gI y,gI A,j];exact aiN (P:=λk=>b6 c f nm (.Dict [Y k] [v] p) m) hx λa b=>DY (P:=λv=>b6 c f nm (.Dict [_] [v] p) m) hi λD G=>sK (P:=λm=>b6 c f nm _ m) h λen l σ K X E h =>
   Zr (x:=x) (i:=i) rfl rfl rfl (by simp) (by simp) λw e=>by show K (.ref σ.H.length) w.H;rw[e];exact h
theorem Zj{o:VC}{nm:Str}{pos:Pos}(hb:qf o=W)(h:bG c f o l σ (λx a=>∀b,qN c f (λv=>amK v nm b) x l a Q X) X):bG c f (.Attribute o nm pos) l σ Q X:=λs m =>
 Attribute_any_ (cH (h s m) (λv s₁ x a rv i e j=>WD (j _ v s₁ i rv) (λ_ _ p=>p.after e) λ_ _ p=>p.after e) λ_ _ p=>p)
  (by rw[arm_eval_Attribute,EE hb])
theorem abM(H:cX r)(ok:bU c f cx)(h:Nu r cx a n=Y m):b6 c f cx.nm (.Attribute a n p) m :=gK h λhb h=>bK h λq hq h=>ie (P:=λm=>b6 c f cx.nm _ m) H ok h λw e en l σ K X E h=>Zj hb (e.s E h λx y h=>oK h λv j h=>bE h λi q b=>US (ok.at_ _ _ hq) j i q)
theorem Jm(h:uZ x=Y p):tG x p:=aK h (λh=>gK h λz h=>by rw[v9 z];exact sK h .none) λh=>bK h λi hi h=>by rw[kz hi];exact sK h (.int i)
theorem Jt(H:cX r)(ok:bU c f cx){e:Option VC}{m:EM O}(h:Be r cx e=Y m){K:bp}{X:KX}{G:QV}(E:dC cx.nm en l)(q:m en σ.H K X)(k:∀v a,K v a.H->G v a):vp c f e l σ G (XK X):=by
 induction e using cO with
 |none=>exact ZS (k _ _ (sK (P:=λm:EM O=>m en σ.H K X) (UB h▸rfl:Y m=Y (aL .none)) q))
 |some e=>exact ZT ((H.e ok h).s E q k)
theorem ab1(H:cX r)(ok:bU c f cx){v:VC}{lo:Option VC×Option VC×Option VC}{p q:Pos}{m:EM O}(h:NI r cx v lo=Y m):b6 c f cx.nm (.Subscript v (.Slice lo.1 lo.2.1 lo.2.2 q) p) m :=bK h λI h1 h=>bK h λD h2 h=>bK h λmb h3 h=>bK h λG h4 h=>sK h λen l σ K X E h=>ZA ((H.e ok h1).s E h λx i h=>Jt H ok h2 E h λa i h=>Jt H ok h3 E h λb i h=>Jt H ok h4 E h λd i h => oK h λw A h=>oK h λy B h=>oK h λz C h=>oK h λv j q=>⟨w,y,z,Jm A,Jm B,Jm C,Yc j q⟩)
theorem QA:∀{ks:List (Option VC)}{vs:List VC}{D:List (Int×Int)},IM ks vs=some D->litPairs ks vs=some (D.map λp=>(af8 p.1,af8 p.2))/\ks.all (·.isSome)=true/\ks.length=D.length/\vs.length=D.length
 | [],vs,D,h=>gK h λz h=>by rw[kY z];exact sK (P:=λD=>litPairs [] []=some (D.map λp=>(af8 p.1,af8 p.2))/\([]:List (Option VC)).all (·.isSome)=true/\0=D.length/\0=D.length) h ⟨rfl,rfl,rfl,rfl⟩
 |k::ks,[],D,h=>by exact bN h
 |k::ks,v::vs,D,h=>bK (show k.bind _=some D from h) λm y h=>bK h λi hi h=>bK h λj x h=>bK h λA w h=>by
  refine hX (QA w) λa b d e=>?_;rw[y];refine sK (P:=λD=>litPairs (some m::ks) (v::vs)=some (D.map λp=>(af8 p.1,af8 p.2))/\(some m::ks).all (·.isSome)=true/\ks.length+1=D.length/\vs.length+1=D.length) h ⟨?_,b,congrArg (· + 1) d,congrArg (· + 1) e⟩;refine DY (P:=λm=>litPairs (some m::ks) (v::vs)=_) hi λB b1=>DY (P:=λv=>litPairs (some _::ks) (v::vs)=_) x λC b2=>?_;show(do let r ←litPairs ks vs;pure ((af8 i,af8 j)::r))=_;rw[a];rfl
theorem aef:∀D:List (Int×Int),intKeyed (D.map λp=>(af8 p.1,af8 p.2))=W/\intKeysOf (D.map λp=>(af8 p.1,af8 p.2))=D.map (·.1):=by
 intro D;induction D with
 |nil =>
  exact⟨rfl,rfl⟩
 |cons p r a =>
  exact⟨(a).1,congrArg (p.1 :: ·) (a).2⟩
theorem afw:∀{D:List (Int×Int)},CZ D=W->(D.map (·.1)).Nodup:=by
 intro D;induction D with
 |nil =>
  exact@λ_=>.nil
 |cons p r a =>
  exact@λh=>bt (b:=CZ r) h λh1 h2=>VU.mpr ⟨λm=>by
   refine aU (abz.mp m) λq hq e=>?_;exact absurd e.symm (VQ.mp (oL (xD h1 q hq))),a h2⟩
theorem acM:∀{D:List (Int×Int)}{p:Int×Int},D.find? (λp=>p.1 == i)=Y p->(D.map λp=>(af8 p.1,af8 p.2)).find? (λp=>aaI p.1 (.int i))=Y (af8 i,af8 p.2):=by
 intro D;induction D with
 |nil =>
  exact@λp h=>by exact bN h
 |cons q r a =>
  exact@λp h=>by
   rw[anN]at h;rw[WH,anN];have e:aaI (af8 q.1) (.int i)=(q.1 == i):=rfl;rw[e];cases z:q.1 == i with
   |true=>rw[z]at h;have b:=UB h;clear h;subst b;rw[←eq_of_beq z]
   |false=>rw[z]at h;exact a h
theorem abW(H:cX r)(ok:bU c f cx){q:List (Option VC)×List VC}(h:ND r cx q i=Y m):b6 c f cx.nm (.Subscript (.Dict q.1 q.2 p2) i p) m :=
 bK h λD w h=>gK h λz h=>bt z λz G=>bt z λB C=>ie (P:=λm=>b6 c f cx.nm _ m) H ok h λI hi en l σ K X E h=>by
  refine hX (QA w) λa b d e=>?_;refine a9 (aef D) λy A=>?_;refine ZE a y (by rw[A];exact afw B) b (d.trans e.symm) (λz=>?_) (d.symm▸WG C) (hi.s E h λx L h=>oK h λv j q=>bK j λi hi j=>⟨i,v.2,kz hi,acM j,q⟩);rw[z]at d;have:=qT G;rw[←d]at this;exact absurd this (by simp)
theorem ab2(H:cX r)(ok:bU c f cx)(h:NJ r cx v i=Y m):b6 c f cx.nm (.Subscript v i p) m:=aK h
 (λh=>bK h λq hq h'=>by refine VF (eT (K:=λq=>∃p,i = .Slice q.1 q.2.1 q.2.2 p) (by cases i<;>first|exact trivial|exact⟨_,rfl⟩) hq) λp e=>?_;rw[e];exact ab1 H ok h')
 λh=>aK h (λh=>bK h λq hq h'=>by refine VF (eT (K:=λq=>∃p,v = .Dict q.1 q.2 p) (by cases v<;>first|exact trivial|exact⟨_,rfl⟩) hq) λp e=>?_;rw[e];exact abW H ok h')
 λh=>lW (P:=λm=>b6 c f cx.nm _ m) H ok h λj mb a hb en l σ K X E h=>ZD (a.s E h λx z h=>hb.s E h λy w h=>oK h λv b q=>UY ok.T.bd _ _ b q)
theorem DW(e:noStar args=W)(b:sJ f x)(G:nX c x g)(a:g.fv=Y fv)(i:dW c fv)(h:i8 c f args l σ (λvs j=>dX c f fv vs l j Q X) X):bG c f (.Call (.Name x np) args [] pos) l σ Q X :=Zm e (tK b G ⟨fv,a,i,h⟩)
theorem EV{fv:VD}{F:Fn}(b:dM c f.n fv F){xs:List O}{a:Sg}{K:bp}{X:KX}(h:F xs a.H K X):dX c f fv xs l a (QK K) (XK X):=XJ (b f.n (VJ _) xs a K X h)
theorem big:∀k,k < 100->(Int.ofNat k).natAbs.log2 < 1920:=by decide +kernel
theorem abN(H:cX r)(ok:bU c f cx)(D:noStar args=W)(L:sJ f x)(G:nX c x g)(h:Nv r cx g args=Y m):b6 c f cx.nm (.Call (.Name x np) args [] p) m:=aK h
 (λh=>bK h λa A h=>bK h λF hF h=>bK h λms h1 h=>sK (P:=λm=>b6 c f cx.nm _ m) h λen l σ K X E h=>by
  have k:=ok.fn _ _ hF;exact DW D L G (by rw[tM A];rfl) k.2 ((qR H ok h1).s E h λxs B h=>EV k.1 h))
 λh=>aK h (λh=>bK h λs j h=>aK h
   (λh=>gK h λz h=>bK h λa A h=>ie (P:=λm=>b6 c f cx.nm _ m) H ok h λI b en l σ K X E h=>by
    rw[gI A];exact DW (gI A▸D) L G (by rw[K6 j,eq_of_beq z];rfl) (dW.bi _) (b.s E h λy B h=>oK h λv S q=>Wc S q))
   λh=>gK h λz h=>bK h λa A h=>lW (P:=λm=>b6 c f cx.nm _ m) H ok h λI mb b C en l σ K X E h=>by
    rw[xc A];exact DW (xc A▸D) L G (by rw[K6 j,eq_of_beq z];rfl) (dW.bi _) (b.s E h λy B h=>C.s E h λw ρ h=>oK h λv S q=>Vv ok.dK S q))
 λh=>bK h λs j h=>bK h λa A h=>by
  rw[gI A];have D:noStar [a]=W:=gI A▸D;have go:∀{t:String}{l σ} {K:bp}{X:KX},(s == t)=W->i8 c f [a] l σ (λvs B=>dX c f (.type t) vs l B (QK K) (XK X)) (XK X)->bG c f (.Call (.Name x np) [a] [] p) l σ (QK K) (XK X):=λ{t l σ K X} z h =>
   DW D L G (by rw[AE j,eq_of_beq z];rfl) (dW.ty _) h
  exact aK h (λh=>gK h λz h=>ie (P:=λm=>b6 c f cx.nm _ m) H ok h λI b en l σ K X E h=>go z (b.s E h λy B h=>oK h λxs hx h=>bE h λN q=>Vo hx (ly N) q))
   λh=>aK h (λh=>gK h λz h=>ie (P:=λm=>b6 c f cx.nm _ m) H ok h λI b en l σ K X E h=>go z (b.s E h λy B h=>oK h λxs hx h=>bE h λN q=>Vg hx (ly N) λρ M=>by show K (.ref B.H.length) ρ.H;rw[M];exact q))
   λh=>aK h (λh=>gK h λz h=>ie (P:=λm=>b6 c f cx.nm _ m) H ok h λI b en l σ K X E h=>go z (b.s E h λy B h=>oK h λs j q=>bK j λi hi j=>gK j λw j=>bt w λT Z=>by
    have T:=WE T;have Z:=WE Z;rw[kz hi];have w3:i.natAbs.log2 < 1920:=by refine VF (anH T) λn e=>?_;rw[e];exact big n (by omega)
    exact Vm w3 (sK (P:=λs=>K (.str s) B.H) j.symm q)))
   λh=>gK h λz h=>ie (P:=λm=>b6 c f cx.nm _ m) H ok h λI b en l σ K X E h=>go z (b.s E h λy B h=>oK h λi hi q=>bK hi λs j hi=>by
    have k:=ok.it _ _ hi;rw[gP j];exact U8 k.1 k.2 q)
theorem afk(ok:bU c f cx){n:Str}{x:O}{F:Fn}{P:Prop}(h:nA n ((look n cx.me).getD []) x σ.H=Y F)(k:∀C fs a,(x = .obj C fs∨∃j,x = .ref j/\σ.H[j]?=Y (.inst C fs))->fs.lookup n=Sa->jq c.K C->qM c.K C n a->dM c f.n (.ref a) F->dW c (.ref a)->P):P :=
 bK h λp D h=>bK h λE b h=>gK h λz h=>by
  have hx:x = .obj p.1 p.2∨∃j,x = .ref j/\σ.H[j]?=Y (.inst p.1 p.2):=aK D (λh=>.inl (El h)) λh=>bK h λq hq h=>DZ hq λe i=>.inr ⟨_,e,by have h:=UB h;rw[h]at i;exact i⟩;have B:p.2.lookup n=Sa:=by rw[←oH];exact CI z
  cases q:look n cx.me with
  |none=>rw[q]at b;exact bN b
  |some tab =>
   rw[q]at b;refine qm (ok.me _ _ _ _ q b) λa m w y A=>?_;exact k p.1 p.2 a hx B m w (UB h▸y) A
def MK(c:GC)(f:Fc)(a:List VC)(l:Lc)(e:Sg)(Q:QV)(X:QX):VD->List O->Prop:=λfv fs=>dW c fv/\i8 c f a l e (λxs b=>dX c f fv (fs++xs) l b Q X) X
theorem afm(H:cX r)(ok:bU c f cx){n:Str}{i:List VC}{z:List (EM O)}{x:O}{K:bp}{X:KX}(E:dC cx.nm en l)(h2:kf (r.E cx) i=Y z)(h:eP (nA n ((look n cx.me).getD []) x σ.H) (λF=>Args z en σ.H (λxs H=>F (x::xs) H K X) X) (oP ((qB x σ.H).bind λt=>lu n t n5) λm=>Args z en σ.H (λxs H=>oP (kC cx.T m x xs H) λp=>K p.1 p.2) X)): tC c f n x l σ (MK c f i l σ (QK K) (XK X)):=by
 apply eK h
 .intro F L h;apply afk ok L;intro C fs a hx A B D G I;have q:∀y,y=x->MK c f i l σ (QK K) (XK X) (.ref a) [y]:=λy e=>⟨I,(qR H ok h2).s E h λxs ρ h=>EV G (by rw[e];exact h)⟩;rcases hx with e|⟨j,e,M⟩
  .rw[e];exact@Wi c f l σ _ _ _ _ (MK c f i l σ (QK K) (XK X)) B D A (q _ e.symm)
  .rw[e];exact@Wj c f l σ _ _ _ _ _ (MK c f i l σ (QK K) (XK X)) M B D A (q _ e.symm)
 .intro _ h;apply oK h;intro b hb h;apply bK hb;intro t S hb;have k:=acL hb;have s:=aaG b;rw[k.1];exact@Wf c f l σ _ _ _ _ _ (aiw S) (k.2▸s.1) (k.2▸s.2.1) s.2.2 ⟨dW.bi _,(qR H ok h2).s E h λxs ρ h=>oK h λp N q=>aav ok.T N λZ w=>by show K p.1 Z.H;rw[w];exact q⟩
theorem abZ(H:cX r)(ok:bU c f cx){a:VC}{n:Str}{j p:Pos}{b:List VC}{m:EM O}(y:noStar b=W)(hb:qf a=W)(w:(j.endLine == p.line)=W)(i:b.length < 30)(h:NH r cx a n b=Y m): b6 c f cx.nm (.Call (.Attribute a n j) b [] p) m:=bK h λB h1 h=>bK h λz h2 h=>sK (P:=λm=>b6 c f cx.nm _ m) h λen l σ K X E h=>Ek y hb w i ((H.e ok h1).s E h λx A h=>@afm c f cx l A r en H ok n b z x K X E h2 h)
theorem acs(ok:bU c f cx)(h:excIn cx.eA xs σ.H=Y H')(q:∀b:Sg,b.H=H'->Q .none b):dX c f (.builtin "Exception.__init__") xs l σ Q X:=by
 induction xs using cL with
 |nil=>exact bN h
 |cons x r =>
  refine bK h λp m h=>gK h λz h=>bt z λw y=>Eo m λe j=>?_;refine VF (ok.eA _ (kX w)) λB i=>?_;rw[e];exact U5 i j (c7 y) λA a=>q A (a.trans (UB h))
theorem abR(H:cX r)(ok:bU c f cx)(x:noStar args=W)(w:(ap.endLine == p.line)=W)(b:args.length < 30)(j:sJ f y)(G:nX c y g)(h:Nz r cx g n args=Y m): b6 c f cx.nm (.Call (.Attribute (.Name y np) n ap) args [] p) m:=aK h
 (λh=>bK h λC M h=>bK h λt Z h=>bK h λF N h=>bK h λms h1 h=>sK (P:=λm=>b6 c f cx.nm _ m) h λen l σ K X E h=>by
  refine nJ (ok.cm _ _ _ _ Z N) λa mc A B D I L=>?_;exact Ek x rfl w b (tK j G (by rw[tM M];exact Wg A B D ⟨L,(qR H ok h1).s E h λxs ρ h=>EV I h⟩)))
 λh=>bK h λs T h=>gK h λz h=>bt z λz1 z2=>bK h λms h1 h=>sK (P:=λm=>b6 c f cx.nm _ m) h λen l σ K X E h=>by
  have e:n=("__init__" : Str):=(n6 z2).trans (by decide +kernel);rw[e];exact Ek x rfl w b (tK j G (by
   rw[AE T,eq_of_beq z1];exact Wk (by rw[an6];rfl) (by decide +kernel) ok.ex rfl ⟨dW.bi _,(qR H ok h1).s E h λxs τ h=>oK h λH' S q=>acs ok S λπ i=>by show K .none π.H;rw[i];exact q⟩))
theorem tl{P:VC->Prop}(h:tf e=Y x)(k:∀p,P (.Name x p)):P e:=by
 refine VF (eT (K:=λx=>∃p,e = .Name x p) (by cases e<;>first|exact trivial|exact⟨_,rfl⟩) h) λp h=>?_;rw[h];exact k p
theorem aiI{t:VC×Str×Pos}{P:VC->Prop}(h:DX e=Y t)(k:P (.Attribute t.1 t.2.1 t.2.2)):P e:=by rw[UG h];exact k
theorem abQ(H:cX r)(ok:bU c f cx)(h:Ny r cx a args kws p=Y m):b6 c f cx.nm (.Call a args kws p) m :=
 gK h λz h=>bt z λA w=>by
  rw[kY A];exact aK h (λh=>bK h λx hx h=>bK h λg j h=>tl (P:=λa=>b6 c f cx.nm (.Call a args [] p) m) hx λE=>yx ok j λe i=>abN H ok w e i h)
   λh=>bK h λt C h=>aiI (P:=λa=>b6 c f cx.nm (.Call a args [] p) m) C (gK h λz h=>bt z λz b=>bt z λA B=>aK h
    (λh=>bK h λy D h=>bK h λg j h=>tl (P:=λo=>b6 c f cx.nm (.Call (.Attribute o t.2.1 t.2.2) args [] p) m) D λE=>yx ok j λe i=>abR H ok w B (qT b) e i h)
    λh=>abZ H ok w A B (qT b) h)
theorem JS(H:cX r)(ok:bU c f cx){g:EM Bool->EM Bool->EM Bool}{P:EM Bool->Prop}(h:t2 r cx a b g=Y m)(k:∀e mb,gA c f cx.nm a e->gA c f cx.nm b mb->P (g e mb)):P m:=bK h λe h1 h=>bK h λmb h2 h=>sK h (k e mb (H.t ok h1) (H.t ok h2))
theorem ain(H:cX r)(ok:bU c f cx){e:am1}(h:TY r cx e a=Y m):gA c f cx.nm (.UnaryOp e a p) m:=by
 cases e<;>first|(cases h;done)|exact bK h λi h1 h=>sK (P:=λm=>gA c f cx.nm _ m) h λen l σ K X E h=>ZM ((H.t ok h1).s E h λb j h=>h)
theorem aik(H:cX r)(ok:bU c f cx){e:anz}(h:TU r cx e es p=Y m):gA c f cx.nm (.BoolOp e es p) m:=by
 induction es using cL with
 |nil=>cases e with
  |And=>exact sK (P:=λm=>gA c f cx.nm _ m) h λen l σ K X E h=>ZI h
  |Or=>exact sK (P:=λm=>gA c f cx.nm _ m) h λen l σ K X E h=>ZO h
 |cons a l=>cases e with
  |And=>exact JS (P:=λm=>gA c f cx.nm _ m) H ok h λj mb i hb en l σ K X E h=>ZH (i.s E h λb w h=>by
    induction b using cB with
    |true=>exact hb _ _ _ _ _ E (lT h)
    |false=>exact lS h)
  |Or=>exact JS (P:=λm=>gA c f cx.nm _ m) H ok h λj mb i hb en l σ K X E h=>ZN (i.s E h λb w h=>by
    induction b using cB with
    |true=>exact lT h
    |false=>exact hb _ _ _ _ _ E (lS h))
theorem ail(H:cX r)(ok:bU c f cx){a:VC}{i:List amh}{rs:List VC}{p:Pos}{m:EM Bool}(h:TV r cx a i rs=Y m):gA c f cx.nm (.Compare a i rs p) m:=aK h
 (λh=>bK h λN A h=>bK h λb hb h=>by
  rw[gI A,gI hb];exact M6 (P:=λm=>gA c f cx.nm _ m) H ok h λF D mb hm j w hb en l σ K X E h=>ZK (w.s E h λx L h=>hb.s E h λy I h=>oK h λv e q=>j e (xu q)) hm)
 λh=>bK h λo A h=>bK h λq hq h=>by
  rw[xc A,xc hq];exact M7 (P:=λm=>gA c f cx.nm _ m) H ok h λF G D mb M hm j B w hb C en l σ K X E h=>ZJ hm (w.s E h λx L h=>hb.s E h λy I h=>oK h λv e q=>j e (xu (by
   induction v using cB with
   |true=>exact C.s E (lT q) λz S h=>oK h λv e q=>B e (xu q)
   |false=>exact lS q)))
theorem aim(H:cX r)(ok:bU c f cx)(h:TX r cx t a b=Y m):gA c f cx.nm (.IfExp t a b p) m :=
 bK h λmt h1 h=>JS (P:=λm=>gA c f cx.nm _ m) H ok h λi mb e hb en l σ K X E h=>ZL ((H.t ok h1).s E h λt j h=>by
  induction t using cB with
  |true=>exact e _ _ _ _ _ E (lT h)
  |false=>exact hb _ _ _ _ _ E (lS h))
theorem DS(H:cX r)(ok:bU c f cx)(h:e1 r cx a cq=Y m)(he:∀b,isTrue a f.env b=(do let v ←b;standAt a.pos;holding [v] (truthy v))):gA c f cx.nm a m :=ie (P:=λm=>gA c f cx.nm a m) H ok h λj e en l σ K X E h=>ZP (e.s E h λx p h=>oK h λv i q=>As i q) he
theorem adC(H:cX r)(ok:bU c f cx)(h:OD r cx a=Y m):gA c f cx.nm a m:=eT (K:=λm=>gA c f cx.nm a m) (by
 cases a<;>first|exact trivial|refine eW λm h=>?_
 .exact aik H ok h
 .exact ain H ok h
 .exact aim H ok h
 .exact ail H ok h
 .exact DS H ok h λ_=>rfl
 .exact DS H ok h λ_=>rfl
 .exact DS H ok h λ_=>rfl
 .exact DS H ok h λ_=>rfl) h
end
theorem adk(f:List (Str×acE)):∀n,n∈frees f->∃p∈f,p.1=n/\p.2 = .free:=by
 intro n;induction f with
 |nil=>intro h;exact dw h
 |cons p r i =>
  obtain⟨a,k⟩:=p;intro h;have h:n∈(if (k == .free)=W then a::frees r else frees r):=h;by_cases q:(k == aku)=W
  .rw[VY q]at h;rcases WM.mp h with e|h
   .exact⟨_,.head _,e.symm,eq_of_beq q⟩
   .refine aU (i h) λp b e=>?_;exact⟨p,.tail _ b,e⟩
  .rw[VP q]at h;refine aU (i h) λp b e=>?_;exact⟨p,.tail _ b,e⟩
theorem I2:∀{l:List Str},wo l=W->l.Nodup:=by
 intro l;induction l with
 |nil =>
  exact@λ_=>.nil
 |cons x r a =>
  exact@λh=>bt (b:=wo r) h λh1 h2=>VU.mpr ⟨λm=>aml ((oL (xD h1 x m)).symm.trans ((qV x x).mpr rfl)),a h2⟩
theorem Ji(h:uV x=W):(x == ("__debug__" : Str))=UA/\(x == ("__classdict__" : Str))=UA:=bt h λh1 h2=>by
 have h1:=oL h1;have h2:=oL h2;rw[vB]at h1 h2;have e1:(⟨⟨[95,95,100,101,98,117,103,95,95]⟩⟩: Str)= "__debug__":=by decide +kernel
 have e2:(⟨⟨[95,95,99,108,97,115,115,100,105,99,116,95,95]⟩⟩: Str)= "__classdict__":=by decide +kernel
 rw[←e1,←e2];exact⟨h1,h2⟩
section
variable{c:GC}{f:Fc}{cx:Cx}{l:Lc}{σ:Sg}{Q:QV}{X:QX}{r:Rc}{nm:List Str}
structure mR (cx:Cx) (sc:akz) (x:Str):Prop where
 kind:sc.kind = .function
 names:∀p∈sc.names,Tj cx sc p=W
 nd:(x::frees sc.names).Nodup
 nmx:(x == ("__debug__" : Str))=UA/\(x == ("__classdict__" : Str))=UA
 x:look x sc.names=Y .local
theorem aem{k:aoF}(h:isFun k=W):k = .function:=by cases k<;>first|rfl|exact bD h
theorem aht(h:To cx sc x=W):mR cx sc x:=bt h λh a=>bt h λh h4=>bt h λh h3=>bt h λh1 h2=>⟨aem h1,λp m=>xD h2 p m,I2 h3,Ji h4,y7 a⟩
theorem mR.free{sc:akz}{x:Str}(S:mR cx sc x){n:Str}(h:n∈frees sc.names):look n sc.names=Y .free/\look n cx.kd=Y .cell:=by
 obtain⟨⟨a,k⟩,b,e1,e2⟩:=adk _ _ h;have e1:a=n:=e1;have e2:k = .free:=e2;subst e1 e2;have h:(uQ (look a sc.names)&&uP (look a cx.kd))=W:=S.names _ b;exact bt h λh1 h2=>⟨aeI h1,IC h2⟩
theorem mR.loc{sc:akz}{x:Str}(S:mR cx sc x){p:Str×acE}(h:p∈sc.names)(e:p.2 = .local):look p.1 sc.names=Y .local:=by
 obtain⟨a,k⟩:=p;have e:k = .local:=e;subst e;exact y7 (S.names _ h)
theorem mR.afG{sc:akz}{x:Str}(S:mR cx sc x){p:Str×acE}(h:p∈sc.names):p.2 ≠ .cell:=by
 obtain⟨a,k⟩:=p;intro e;have e:k = .cell:=e;subst e;exact aml (show UA=W from S.names _ h)
theorem posK{z n:Str}{a:List Str}{j:Nat}{P:Prop}(h:posOf z (n::a)=Y j)(b:z=n->j=0->P)(m:∀i,z≠n->posOf z a=Y i->j=i+1->P):P:=by
 have h:cond (dF z n) (Y 0) ((posOf z a).bind λn=>Y (n+1))=Y j:=h;cases q:dF z n with
 |true=>rw[q]at h;exact b (n6 q) (UB h).symm
 |false=>rw[q]at h;exact bK (show(posOf z a).bind _=Y j from h) λi hi h=>m i (λe=>by rw[e,(qV n n).mpr rfl]at q;exact w5 q) hi (UB h).symm
theorem B3(ok:bU c f cx){en:En}(E:dC cx.nm en l):∀{a:List Str}{is:List Nat}{q:En},kf (xO cx) a=Y is->pR is en=Y q -> (∀n∈a,∃v,l.lookup n=Y v)/\∀z j v,posOf z a=Y j->q[j]?=Y (Y v)->l.lookup z=Y v:=by
 intro a;induction a with
 |nil =>
  exact@λis q h _=>⟨λn m=>(nomatch m),λz j v e _=>(nomatch e)⟩
 |cons n a b =>
  exact@λis q h hq=>bK h λi hi h=>bK h λD h2 h=>by
   rw[←UB h]at hq;refine bK (show((en[i]?).bind id).bind _=Y q from hq) λv x hq=>bK hq λG p hq=>?_;have b:=b h2 p;have C:posOf n cx.nm=Y i:=gK hi λ_ h=>h;have y:l.lookup n=Y v:=bK x λo B x=>E _ _ _ C (by rw[B];exact congrArg Y x);rw[←UB hq];refine⟨λm hm=>?_,λz j w e hw=>posK e (λe1 e2=>?_) λi e1 e2 A=>?_⟩
   .rcases WM.mp hm with e|hm
    .exact⟨v,by rw[e];exact y⟩
    .exact b.1 m hm
   .rw[e2]at hw;rw[e1,y];exact UB hw
   .rw[A]at hw;exact b.2 z i w e2 hw
theorem ad5{env:Env}{ns0:List (Str×acE)}(j:env.scope.kind = .function)(kd:∀n,(n∈frees ns0->env.kindOf n=Y .cell))(x:Str):∀{a:List (Str×acE)},(∀n,n∈frees a->n∈frees ns0)-> (a.map λ(n,k)=>if (k == aku&&env.scope.kind == .function&&env.kindOf n == Y .cell) then(n,ak8) else(n,k)).lookup x=look x (CD a):=by
 intro a;induction a with
 |nil =>
  exact@λ_=>rfl
 |cons p r b =>
  obtain⟨n,k⟩:=p;exact@λh=>by
   have b:=b λm hm=>h m (by
    show m∈(if (k == .free)=W then n::frees r else frees r);by_cases q:(k == aku)=W
    .rw[VY q];exact .tail _ hm
    .rw[VP q];exact hm)
   rw[WH];show _=cond (dF x n) (Y (cond (uQ (Y k)) .cell k)) (look x (CD r));rw[vB,←b];by_cases q:k = .free
   .subst q;have i:env.kindOf n=Y .cell:=kd n (h n (List.Mem.head _));have e:(aku == aku&&env.scope.kind == .function&&env.kindOf n == Y .cell)=W:=by rw[j,i];rfl
    dsimp only;rw[VY e,VZ];cases x == n<;>rfl
   .have e:¬((k == aku&&env.scope.kind == .function&&env.kindOf n == Y .cell)=W):=λz=>bt z λz _=>bt z λz _=>q (eq_of_beq z);have e2:uQ (Y k)=UA:=by cases k<;>first|rfl|exact absurd rfl q
    dsimp only;rw[VP e,VZ,e2];cases x == n<;>rfl
theorem afh{b i:Type}{g:b->Option i}:∀{l:List b}{r:List i},kf g l=Y r->∀x∈l,∃y,g x=Y y:=by
 intro l;induction l with
 |nil =>
  exact@λ_ _ x m=>nomatch m
 |cons a l p =>
  exact@λr h x m=>bK h λy j h=>bK h λys h2 _=>by
   rcases WM.mp m with e|m
   .exact⟨y,by rw[e];exact j⟩
   .exact p h2 x m
theorem Io(ok:bU c f cx){sc:akz}{x:Str}(S:mR cx sc x){is:List Nat}(fQ:kf (xO cx) (frees sc.names)=Y is){f':Fc}(b:tI f sc f'):bU c f' (CC cx sc x) where
 kind:=by rw[b.sc];exact S.kind
 kd:=λz=>by
  show f'.env.scope.names.lookup z=_;rw[b.sc];exact ad5 (ns0:=sc.names) ok.kind (λn w=>(ok.kd n).trans (S.free w).2) z λn h=>h
 oJ:=λz i h=>by
  have h:posOf z (x::frees sc.names)=Y i:=h;rcases WM.mp (ak0 (wF h)) with e|m
  .rw[e];exact S.nmx
  .refine VF (afh fQ z m) λj p=>?_;exact gK p λ_ p=>ok.oJ _ _ p
 gl:=ok.gl
 fn:=λa F h=>by rw[b.n];exact ok.fn a F h
 me:=λn t C F h h2=>by rw[b.n];exact ok.me n t C F h h2
 cm:=λn t C F h h2=>by rw[b.n];exact ok.cm n t C F h h2
 ex:=ok.ex
 at_:=ok.at_
 st:=ok.st
 dK:=ok.dK
 eA:=ok.eA
 T:=ok.T
 it:=ok.it
 hd:=ok.hd
 quiet:=ok.quiet
def tv(K:bp):QV:=λy a=>∃k m z,y = .ref k/\a.H[k]?=Y m/\q7 m=Y z/\∀b:Sg,b.H=a.H.set k .dead->K z b.H
theorem NP{K:bp}(h:lY k σ.H K):tv K (.ref k) σ:=oK h λxs hx q=>bK hx λm hm g=>⟨k,_,_,rfl,ui hm g,rfl,λa e=>by rw[e];exact q⟩
theorem K7{k:Nat}{z:O}{H a:List MO}{P:Prop}(h:qQ k z H=Y a)(q:∀acc,H[k]?=Y (.lst acc)->acc.length<=WI->a=H.set k (.lst (acc++[z]))->P):P :=bK h λm hm h=>bK h λacc g h=>gK h λz h=>q acc (ui hm g) (ly z) (UB h).symm
def Kr(c:GC)(f':Fc)(x:Str)(b:VC)(a:Lc)(e:En)(m:EM O):Prop:=∀y σ K X,m (some y::e) σ.H K X->bG c f' b (cC x y a) σ (QK K) (XK X)
def D8(c:GC)(f':Fc)(x:Str)(ifs:List VC)(a:Lc)(h:En)(ts:List (EM Bool)):Prop:=∀y σ K X (G:Bool->Sg->Prop),PU ts (some y::h) σ.H K X->(∀b e,K b e.H->G b e)->qG c f' (cC x y a) σ (XK X) G ifs
theorem abg{f':Fc}{x:Str}{C:VC}{ifs:List VC}{w:Lc}{E:En}{m:EM O}{ts:List (EM Bool)}{k:Nat}{a:Nat->bp}{p:Nat->List MO->Prop}{K:bp}{X:KX}(I:Kr c f' x C w E m)(T:D8 c f' x ifs w E ts)(r:List O): ∀(i:Nat) (acc:List O) (τ:Sg),(∀j y H,r[j]?=Y y->a (i+j) y H)->(∀H,p (i+r.length) H)->pF m ts E k (λG=>lY k G K) X r τ.H -> Cp c f' x C ifs w k a p (λacc B=>tv K (.ref k) B) (XK X) (r.length+1) i acc τ:=by
 induction r with
 |nil=>exactλi acc τ M N h=>.inr ⟨N _,NP h⟩
 |cons y r ih =>
  intro i acc τ M N h;refine .inl ⟨y,M 0 y _ rfl,?_⟩;have A:∀acc τ,pF m ts E k (λG=>lY k G K) X r τ.H->Cp c f' x C ifs w k a p (λacc B=>tv K (.ref k) B) (XK X) (r.length+1) (i+1) acc τ:=λacc τ e =>
   ih (i+1) acc τ (λj y H h=>by have:=M (j+1) y H h;rw[←ami,alf]at this;exact this) (λH=>by have:=N H;rw[WB,←ami,alf]at this;exact this) e
  refine T y τ _ _ _ h λb S h=>?_;induction b using cB with
  |false=>exact A acc S (lS h)
  |true=>exact(I y S _ _ (lT h)).mono (λz π h=>oK h λH' Z h=>K7 Z λD h1 h2 e=>⟨D,h1,h2,λψ L=>A _ ψ (by rw[L,←e];exact h)⟩) λ_ _ q=>q
theorem abw{K:Bool->Sg->Prop}(h:K W σ):qG c f l σ X K []:=h
theorem ad6:D8 c f' x [] ajn fe []:=λy σ K X G h k=>k W σ h
theorem abh{f':Fc}{x:Str}{p:VC}{b:Lc}{B:En}{m:EM O}{k j:Nat}{K:bp}{X:KX}(I:Kr c f' x p b B m)(n:Nat): ∀(i:Nat) (acc:List O) (τ:Sg),xT m B j k (λG=>lY k G K) X n i τ.H -> Cp c f' x p [] b k (λi x H=>∃xs,H[j]?=Y (.lst xs)/\xs[i]?=Y x) (λi H=>∃xs,H[j]?=Y (.lst xs)/\xs[i]?=Sa) (λacc A=>tv K (.ref k) A) (XK X) n i acc τ:=by
 induction n with
 |zero=>exactλi acc τ h=>h.elim
 |succ n E =>
 intro i acc τ h;exact oK h λys D h=>bK D λN hm g=>eK h
  (λy hi h=>.inl ⟨y,⟨ys,ui hm g,hi⟩,abw (by
   exact(I y τ _ _ h).mono (λz S h=>oK h λM C h=>K7 C λa h1 h2 e=>⟨a,h1,h2,λL w=>E (i+1) _ L (by rw[w,←e];exact h)⟩) λ_ _ q=>q)⟩)
  λhi h=>.inr ⟨⟨ys,ui hm g,hi⟩,NP h⟩
variable{en:En}
theorem J1:∀(n:Nat) (i:Int) (j:Nat) (v:O),(upTo n i)[j]?=Y v->j < n/\v = .int (i+j)
 |0,i,j,v,h=>by cases j<;>(exact bN h)
 |n+1,i,0,v,h=>⟨aoI n,by rw[←UB h];simp⟩
 |n+1,i,j+1,v,h=>by
  refine a9 (J1 n (i+1) j v h) λa b=>?_;refine⟨Nat.succ_lt_succ a,b.trans (congrArg O.int ?_)⟩;lia
theorem Us:∀(n:Nat) (i:Int),(upTo n i).length=n:=by
 intro n;induction n with
 |zero=>exactλi=>rfl
 |succ n a=>exactλi=>congrArg (· + 1) (a _)
theorem fitsLong(h1:0<=i)(h2:i<=60000):alD i=W:=by
 unfold alD;rw[VG,akm,akm];exact⟨aqA (by decide:(-9223372036854775808:Int)<=0) h1,aoH h2 (by decide:(60000:Int)< 9223372036854775808)⟩
theorem SH(a:0<=n)(h:n < 60000):agb 0 n 1=W/\VS 0 n 1=n:=by
 have e:VS 0 n 1=n:=by
  unfold VS;rw[VY (by decide)];by_cases q:(0:Int)< n
  .rw[VY q];lia
  .rw[VP q];lia
 refine⟨?_,e⟩;unfold agb;rw[e];simp only[fitsLong (Int.le_refl 0) (by decide),fitsLong a (anA h),fitsLong (show(0:Int)<=1 by decide) (by decide)];have k:alD (n+(1 - 1))=W:=fitsLong (by rw[aqC,aqD];exact a) (by rw[aqC,aqD];exact anA h);rw[VY (by decide:(1:Int) > 0),k];simp
theorem SR{P:O->List O->Prop}(h:qw x=Y ys)(k:∀n:Int,0<=n->n < 60000->P (.int n) (upTo n.toNat 0)):P x ys :=bK h λn a h=>gK h λz h=>bt z λb e=>by rw[kz a,←UB h];exact k n (WE b) (WE e)
theorem Iz{P:VC->Prop}(ok:bU c f cx)(h:Iy t cx it=Y e)(k:∀x a p,noStar [e]=W->sJ f x->nX c x (.ty t)->P (.Call (.Name x a) [e] [] p)):P it :=
 bK h λq hq h=>bK h λx hx h=>bK h λg j h=>bK h λs m h=>gK h λz h=>bt z λz A=>bt z λw y=>by
  have e1:=UH hq;rw[e1,kY y,gI h];refine tl (P:=λo=>P (.Call o [e] [] q.2.2.2)) hx λa=>yx ok j λi b=>k x a q.2.2.2 (gI h▸A) i ?_;rw[AE m,eq_of_beq w]at b;exact b
theorem ahY(H:cX r)(ok:bU c f cx)(hq:c.quiet=W){w tg:VC}{s:EM (List O)}(h:xY r cx w=Y s)(E:dC cx.nm en l){K:List O->List MO->Prop}{X:KX}(q:s en σ.H K X){C:(Nat->bp)->(Nat->List MO->Prop)->Sg->Prop}(k:∀A B ys z,K ys z.H->(∀j y H,ys[j]?=Y y->A j y H)->(∀H,B ys.length H)->C A B z):ky c f tg w l σ C (XK X):=Bc h
 (λe he h=>Iz (P:=λw=>ky c f tg w l σ C (XK X)) ok he λx S p N I L =>
  ie (P:=λs:EM (List O)=>s en σ.H K X->ky c f tg (.Call (.Name x S) [e] [] p) l σ C (XK X)) H ok h (λm hm q=>Vx hq N (tK I L ⟨rfl,hm.s E q λv z q=>oK q λys D q =>
   SR (P:=λv ys=>K ys z.H->∃n,v = .int n/\agb 0 n 1=W/\C (λi x _=>(i:Int)< VS 0 n 1/\x = .int i) (λi _=>VS 0 n 1<=(i:Int)) z) D (λn M h1 q=>by
    refine a9 (SH M h1) λT G=>?_;refine⟨n,rfl,T,k _ _ _ z q (λj y H D=>?_) λH=>?_⟩
    .refine a9 (J1 _ _ _ _ D) λa b=>?_;rw[G];exact⟨aqE.mp a,by rw[b,aoD]⟩
    .rw[G,Us];exact ao6 n) q⟩)) q)
 λ_ h=>ie (P:=λs:EM (List O)=>s en σ.H K X->ky c f tg w l σ C (XK X)) H ok h (λm hm q=>Kq (hm.s E q λx z q=>oK q λys D q=>aK D
  (λh=>by rw[n0 h];exact⟨_,_,Kw hq,k _ _ _ z q (λj y H h=>h) λH=>WN (VJ _)⟩)
  λh=>by rw[CS h];exact⟨_,_,Ku hq,k _ _ _ z q (λj y H h=>h) λH=>WN (VJ _)⟩)) q
theorem I9(h:C2 e=W)(env:Env)(y:VD):agc e env y=pure y:=by
 exact bT (by cases e<;>first|exact trivial|exact rfl) h
theorem Jo(fl:∀z j v,posOf z ns=some j->fe[j]?=some (some v)->l.lookup z=some v)(y:O):dC (x::ns) (some y::fe) (cC x y (i4 ns l)):=λz i v e a=>by
 rw[my];refine posK e (λe1 e2=>?_) λj e1 e2 b=>?_
 .rw[e2]at a;rw[VY e1];exact UB a
 .rw[b]at a;rw[VP e1];exact QH (ak0 (wF e2)) (fl z j v e2 a)
structure Kk (cx:Cx) (r:Rc) (m:EM O) (elt iter:VC) (x:Str) (ifs:List VC) (sc:akz):Prop where
 q:cx.quiet=W
 S:mR cx sc x
 set:C2 iter=W
 run:∀{c:GC}{f:Fc}{px:Pos}{en:En}{l:Lc}{σ:Sg}{K:bp}{X:KX},cX r->bU c f cx->dC cx.nm en l->m en σ.H K X->vg f sc l x /\
  ky c f (.Name x px) iter l σ (λgive stop ajf=>∀f',tI f sc f'->∀τ:Sg,τ.H=ajf.H++[.lst []]->∃n,Cp c f' x elt ifs (i4 (frees sc.names) l) ajf.H.length give stop (λacc ajg=>tv K (.ref ajf.H.length) ajg) (XK X) n 0 [] τ) (XK X)
theorem Nb(ok:bU c f cx)(S:mR cx sc x)(E:dC cx.nm en l)(fQ:kf (xO cx) (frees sc.names)=Y is)(a:pR is en=Y fe):vg f sc l x where
 kind:=S.kind
 names:=λp h e=>uT (S.loc h e)
 cell:=λp h=>S.afG h
 free:=⟨(VU.mp S.nd).2,λn b=>⟨(ok.kd n).trans (S.free b).2,uT (S.free b).1,by
  refine VF ((B3 ok E fQ a).1 n b) λv i=>?_;rw[i];rfl⟩⟩
 x:=uT S.x
theorem Nf(H:cX r)(ok:bU c f cx)(hq:c.quiet=true){w b:VC}{ifs:List VC}{sc:akz}{x:Str}{px:Pos}(S:mR cx sc x){is:List Nat}(fQ:kf (xO cx) (frees sc.names)=some is){I:EM O}(D:r.E (CC cx sc x) w=some I){ts:List (EM Bool)}(T:∀{A:En},pR is en=some A->∀f',tI f sc f'->D8 c f' x ifs (i4 (frees sc.names) l) A ts){s:EM (List O)}(N:xY r cx b=some s){K:bp}{X:KX}(E:dC cx.nm en l)(h:gw s is I ts en σ.H K X):vg f sc l x /\ ky c f (.Name x px) b l σ (λa i m=>∀f',tI f sc f'->∀z:Sg,z.H=m.H++[.lst []]->∃n,Cp c f' x w ifs (i4 (frees sc.names) l) m.H.length a i (λacc C=>tv K (.ref m.H.length) C) (XK X) n 0 [] z) (XK X):=
 oK (cast xU h) λA p h=>⟨Nb ok S E fQ p,ahY H ok hq N E h λa i ys z h M G f' L Z B=>⟨ys.length+1,abg
  (λy z K X h=>H.e (Io ok S fQ L) D (some y::A) _ z K X (Jo (B3 ok E fQ p).2 y) h) (T p f' L) ys 0 [] Z (λj y H h=>by rw[akE];exact M j y H h) (λH=>by rw[akE];exact G H) (by rw[B];exact h)⟩⟩
theorem aiK{q:Str×VC×List VC}{P:List alK->Prop}(h:UI gens=Y q)(k:∀px,P [⟨.Name q.1 px,q.2.1,q.2.2,0⟩]):P gens :=
 bK h λg b h=>bK h λx hx h=>gK h λz h=>by
  obtain⟨t,it,ifs,a⟩:=g;rw[gI b];have z:a=0:=eq_of_beq z;subst z;rw[←UB h]at k;exact tl (P:=λt=>P [⟨t,it,ifs,0⟩]) hx k
theorem Ni(h:xX r cx elt b sc=some m):∃x px a ifs,b=[⟨.Name x px,a,ifs,0⟩]/\Kk cx r m elt a x ifs sc :=
 bK h λq hq h=>gK h λz h=>bt z λz z3=>bt z λB z2=>bK h λis fQ h=>bK h λL j h=>aiK (P:=λb=>∃x px a ifs,b=[⟨.Name x px,a,ifs,0⟩]/\Kk cx r m elt a x ifs sc) hq λpx=>by
  have S:=aht z2;refine⟨q.1,px,q.2.1,q.2.2,rfl,B,S,z3,λ{c f px en l σ K X} H ok E h'=>aK h (λh=>gK h λzn h=>?_) λh=>bK h λt ht h=>bK h λmt D h=>bK h λs w h=>?_⟩
  .rw[kY zn];cases A:Qf cx q.2.1 with
   |true=>rw[A]at h;exact bK (show(r.E cx q.2.1).bind _=some m from h) λs w h=>oK (cast Nc (show tm s is L en σ.H K X by rw[show tm s is L=m from UB h];exact h')) λN i h =>
     ⟨Nb ok S E fQ i,Kq ((H.e ok w).s E h λv M h=>oK h λp Z h=>qC Z λe T=>by
      rw[e];exact⟨_,_,Kv (ok.quiet B) T,λf' I ψ C=>⟨jK,abh (λy M K X h=>H.e (Io ok S fQ I) j (some y::N) _ M K X (Jo (B3 ok E fQ i).2 y) h) jK 0 [] ψ (by rw[C];exact h)⟩⟩)⟩
   |false=>rw[A]at h;exact bK (show(xY r cx q.2.1).bind _=some m from h) λs w h=>Nf H ok (ok.quiet B) S fQ j (λ_ f' _=>ad6) w E (by rw[UB h];exact h')
  .rw[gI ht];exact Nf (ifs:=[t]) (ts:=[mt]) H ok (ok.quiet B) S fQ j (λi f' I y σ K X G h k=>(H.t (Io ok S fQ I) D).s (Jo (B3 ok E fQ i).2 y) h k) w E (by rw[UB h];exact h')
theorem abT(H:cX r)(ok:bU c f cx)(h:xX r cx elt gens sc=Y m):b6 c f cx.nm (.ListComp elt gens sc p) m:=by
 refine zy (Ni h) λx px a ifs e C=>?_;rw[e]
 exactλen l σ K X E h=>by
  refine a9 (C.run (px:=px) H ok E h) λb i=>?_;exact jW.freeze (Zp (Q:=tv K) (ok.quiet C.q) b (I9 C.set _) i)
theorem adA(H:cX r)(ok:bU c f cx)(h:OB r cx a=Y m):b6 c f cx.nm a m:=eT (K:=λm=>b6 c f cx.nm a m) (by
 cases a<;>first|exact trivial|refine eW λm h=>?_
 .exact abP H ok h
 .exact abO H ok h
 .exact ab4 H ok h
 .exact abX H ok h
 .exact abV h
 .exact abT H ok h
 .exact abS H ok h
 .exact abQ H ok h
 .exact abU h
 .exact abM H ok h
 .exact ab2 H ok h
 .exact ab0 ok h
 .exact abY H ok h
 .exact ab3 H ok h) h
theorem SI:∀n,cX (rc n):=by
 intro n;induction n with
 |zero=>exact⟨λ_ _ _ h=>(nomatch h),λ_ _ _ h=>(nomatch h)⟩
 |succ n a=>exact⟨λok _ _ h=>adA (a) ok h,λok _ _ h=>adC (a) ok h⟩
end
def QS(nm:List Str)(K:KF):Fl->Lc->Sg->Prop:=λk l' a=>∃en,dC nm en l'/\K k en a.H
def XS(nm:List Str)(X:KE):Lc->QX:=λl' x a=>∃en,dC nm en l'/\X x.C x.fs en a.H
def dJ(c:GC)(f:Fc)(nm:List Str)(s:ajc)(M:SM):Prop:=∀en l σ K X,dC nm en l->M en σ.H K X->dZ c f (al9 s f.env) l σ (QS nm K) (XS nm X)
def Aq(c:GC)(f:Fc)(nm:List Str)(s:List ajc)(M:SM):Prop:=∀en l σ K X,dC nm en l->M en σ.H K X->dZ c f (akS s f.env) l σ (QS nm K) (XS nm X)
def hI(f:Fc)(cx:Cx):Prop:=∀x,look x cx.kd=Y .cell->∃a,f.env.cells.lookup x=Y a
def mQ(S:Rs):Prop:=∀{c f cx},bU c f cx->hI f cx->∀{s M},S cx s=Y M->dJ c f cx.nm s M
section
variable{c:GC}{f:Fc}{cx:Cx}{l:Lc}{σ:Sg}{r:Rc}{S:Rs}{nm:List Str}{en:En}{K:KF}{X:KE}
theorem b6.st{K:bp}(S:b6 c f nm e m)(E:dC nm en l)(h:m en σ.H K (xE X en))(k:∀v a,K v a.H->G v a):bG c f e l σ G (XS nm X l):=(S en l σ K _ E h).mono k λ_ _ q=>⟨en,E,q⟩
theorem gA.st{K:Bool->List MO->Prop}{G:QB}(S:gA c f nm e m)(E:dC nm en l)(h:m en σ.H K (xE X en))(k:∀v a,K v a.H->G v a):gk c f e l σ G (XS nm X l):=(S en l σ K _ E h).mono k λ_ _ q=>⟨en,E,q⟩
theorem dZ.mono{Q h:Fl->Lc->Sg->Prop}{X X':Lc->QX}(H:dZ c f t l σ Q X)(k:∀fl l' a,Q fl l' a->h fl l' a)(m:∀l' x a,X l' x a->X' l' x a):dZ c f t l σ h X':=λs i => nz (H s i) (λfl s' j l' a r b S q=>⟨j,l',a,r,b,S,k _ _ _ q⟩) λe s' ⟨x,l',a,T,b,S,q⟩=>⟨x,l',a,T,b,S,m _ _ _ q⟩
theorem nC(E:dC nm en l)(h:K fl en H)(e:τ.H=H):QS nm K fl l τ:=⟨en,E,by rw[e];exact h⟩
theorem dC.put(E:dC nm en l)(h:posOf x nm=Y i):dC nm (en.set i (Y v)) (cC x v l):=λz j w b a=>by
 rw[my];rw[List.getElem?_set]at a;by_cases e:i=j
 .have e1:=wF h;have e2:=wF b;rw[←e,e1]at e2;rw[VY (UB e2).symm];rw[VY e]at a;by_cases lt:i < en.length
  .rw[VY lt]at a;exact UB a
  .rw[VP lt]at a;exact bN a
 .rw[VP e]at a;rw[VP λq=>e (by rw[q,h]at b;exact UB b)];exact E z j w b a
theorem te(i:mQ S)(ok:bU c f cx)(st:hI f cx){e:List ajc}:∀{M:SM},mO S cx e=Y M->Aq c f cx.nm e M:=by
 induction e with
 |nil=>exactλ{M} h=>sK (P:=λM=>Aq c f cx.nm [] M) h λen l σ K X E h=>KP (nC E h rfl)
 |cons s rest p =>
  intro M h;induction rest using cL with
  |nil=>exactλen l σ K X E h'=>KO ((i ok st h en l σ K X E h').mono (λk l' j q=>by induction k using vv with|next=>exact KP q|brk=>exact q|ret _=>exact q) λ_ _ _ q=>q)
  |cons w rest=>exact bK h λa m h=>bK h λb hb h=>sK (P:=λM=>Aq c f cx.nm (s::w::rest) M) h λen l σ K X E h=>KO ((i ok st m en l σ _ X E h).mono (λk l' j q=>by
    induction k using vv with
    |next=>exact q.elim λen' q=>p hb en' l' j K X q.1 q.2
    |brk=>exact q
    |ret v=>exact q) λ_ _ _ q=>q)
theorem w0(ok:bU c f cx)(st:hI f cx)(h:wZ cx x=Y i):pD f x/\posOf x cx.nm=Y i:=gK h λz h=>⟨by
 rcases amH.mp z with z|z
 .exact .inl ((ok.kd x).trans (y7 z))
 .exact .inr ⟨(ok.kd x).trans (IC z),st x (IC z)⟩,h⟩
theorem Rh(h:bX (sI v)=W)(t:Option VC)(n:Nat)(env:Env):amS v t n env=pure UA:=by
 cases v<;>first|rfl|exact bD h
theorem ai5(H:cX r)(ok:bU c f cx)(h:Tc r cx e=Y M):dJ c f cx.nm (.Return e p) M:=by
 cases e with
 |none=>exact sK (P:=λM=>dJ c f cx.nm _ M) h λen l σ K X E h=>X4 ⟨en,E,h⟩
 |some e=>exact ie (P:=λM=>dJ c f cx.nm _ M) H ok h λm hm en l σ K X E h=>X3 (hm.st E h λv a h=>⟨en,E,h⟩)
theorem ai0(H:cX r)(ok:bU c f cx)(h:SX r cx e=Y M):dJ c f cx.nm (.Expr e p) M :=gK h λa h=>ie (P:=λM=>dJ c f cx.nm _ M) H ok h λm hm en l σ K X E h=>XY (Rh a _ _ _) (hm.st E h λv b h=>⟨en,E,h⟩)
theorem ai2(H:cX r)(e:mQ S)(ok:bU c f cx)(st:hI f cx)(h:S9 r S cx t a b=Y M):dJ c f cx.nm (.If t a b p) M :=
 bK h λmt h1 h=>bK h λi h2 h=>bK h λmb h3 h=>sK (P:=λM=>dJ c f cx.nm _ M) h λen l σ K X E h=>XZ ((H.t ok h1).st E h λt j h=>by
  cases t with
  |true=>exact te e ok st h2 _ _ _ _ _ E (lT h)
  |false=>exact te e ok st h3 _ _ _ _ _ E (lS h))
theorem JX{go:En->List MO->Prop}{G:Lc->Sg->Prop}(k:∀en l a,dC nm en l->go en a.H->G l a)(h:dZ c f t l σ (QS nm (mz go K)) (XS nm X)):dZ c f t l σ (λfl l' a=>match fl with | .next=>G l' a | .brk=>QS nm K .next l' a | .ret v=>QS nm K (.ret v) l' a) (XS nm X) :=
 h.mono (λfl l' a ⟨en',b,q⟩=>by
  cases fl with
  |next=>exact k _ _ _ b q
  |brk=>exact⟨en',b,q⟩
  |ret v=>exact⟨en',b,q⟩) λ_ _ _ q=>q
theorem aiD(H:cX r)(e:mQ S)(ok:bU c f cx)(st:hI f cx){t:VC}{b:List ajc}{mt:EM Bool}{mb:SM}(h1:r.T cx t=Y mt)(h2:mO S cx b=Y mb)(n:Nat): ∀en l σ,dC cx.nm en l->xf mt mb K X n en σ.H->Wh c f t b (QS cx.nm K) (XS cx.nm X) n l σ:=by
 induction n with
 |zero=>exactλen l σ E h=>h.elim
 |succ n i =>
 refineλen l σ E h=>(H.t ok h1).st E h λt a h=>?_
 induction t using cB with
 |false=>exact nC E (lS h) rfl
 |true=>exact(JX (λen l a E h=>i en l a E h) (te e ok st h2 _ _ _ _ _ E (lT h))).mono (λk _ _ q=>by cases k<;>exact q) λ_ _ _ q=>q
theorem ai7(H:cX r)(a:mQ S)(ok:bU c f cx)(st:hI f cx){t:VC}{b:List ajc}{p:Pos}{M:SM}(h:Te r S cx t b=Y M):dJ c f cx.nm (.While t b [] p) M :=bK h λmt h1 h=>bK h λmb h2 h=>sK (P:=λM=>dJ c f cx.nm _ M) h λen l σ K X E h=>X7 jK (aiD H a ok st h1 h2 jK en l σ E (cast J4 h))
theorem Ts(ok:bU c f cx)(st:hI f cx){es:List VC}:∀{is:List Nat}{vs:List O}{en en':En}{l:Lc}{Q:Lc->Sg->Prop}{X:Lc->QX},slotsOf cx es=Y is->nQ is vs en=Y en'->dC cx.nm en l->(∀l',dC cx.nm en' l'->Q l' σ)-> noStar es=W/\(akD es f.env).findIdx? (·.1)=Sa/\(akD es f.env).length=vs.length/\tD c f ((akD es f.env).map (·.2)) vs l σ Q X:=by
 induction es with
 |nil =>
  intro is vs en en' l Q X h a E k;rw[←UB h]at a;induction vs using cL with
  |nil=>rw[←UB a]at k;exact⟨rfl,rfl,rfl,KA (k l E)⟩
  |cons v vs=>exact nK a
 |cons e es y =>
 intro is vs en en' l Q X h a E k;refine bK h λx hx h=>bK h λi hi h=>bK h λb h2 h=>?_
 .rw[←UB h]at a;induction vs using cL with
  |nil=>exact nK a
  |cons v vs =>
   have s:=w0 ok st hi;refine hX (y (Q:=Q) (X:=X) h2 (show nQ b vs (en.set i (Y v))=Y en' from a) (E.put (v:=v) s.2) k) λj m p w=>?_;refine tl (P:=λe=>noStar (e::es)=W/\(akD (e::es) f.env).findIdx? (·.1)=Sa/\(akD (e::es) f.env).length=(v::vs).length/\tD c f ((akD (e::es) f.env).map (·.2)) (v::vs) l σ Q X) hx λpx=>⟨j,?_,?_,?_⟩
   .show List.findIdx? _ ((UA,ald (.Name x px) f.env)::akD es f.env)=Sa;rw[List.findIdx?_cons];simp[m]
   .show(akD es f.env).length+1=vs.length+1;rw[p]
   .exact Kz (D0 s.1 w)
theorem UM{P:VC->Prop}(h:J7 e=Y es)(k:∀a p,P (.Tuple es a p)):P e:=by
 refine s6 (eT (K:=λes=>∃a p,e = .Tuple es a p) (by cases e<;>first|exact trivial|exact⟨_,_,rfl⟩) h) λa p h=>?_;rw[h];exact k a p
theorem T5(ok:bU c f cx)(st:hI f cx)(hq:c.quiet=W)(h:zV cx t=Y tg)(b:zP tg v en=Y en')(E:dC cx.nm en l){Q:Lc->Sg->Prop}{X:Lc->QX}(k:∀l',dC cx.nm en' l'->Q l' σ):nY c f (ald t f.env) v l σ Q X:=aK h
 (λh=>bK h λx hx h=>bK h λi hi h=>by
  have s:=w0 ok st hi;rw[←UB h]at b;rw[←UB b]at k;exact tl (P:=λt=>nY c f (ald t f.env) v l σ Q X) hx λp=>D0 s.1 (k _ (E.put s.2)))
 λh=>bK h λes he h=>gK h λ_ h=>bK h λis hi h=>by
  rw[←UB h]at b;refine bK (show(aT v).bind _=Y en' from b) λvs w b=>?_;refine hX (Ts ok st (Q:=Q) (X:=X) hi b E k) λy e j m=>?_;rw[n0 w];exact UM (P:=λt=>nY c f (ald t f.env) (.tup vs) l σ Q X) he λa p=>Kc hq j e m
theorem ada(x:mQ S)(ok:bU c f cx)(st:hI f cx)(hq:c.quiet=W)(z:zV cx t=Y tg)(h2:mO S cx b=Y mb){a:Nat->bp}{e:Nat->List MO->Prop}(r:List O): ∀(i:Nat) (en:En) (l:Lc) (σ:Sg),(∀j y H,r[j]?=Y y->a (i+j) y H)->(∀H,e (i+r.length) H)->dC cx.nm en l->forL tg mb K X r en σ.H -> Fo c f t b (QS cx.nm K) (XS cx.nm X) a e (r.length+1) i l σ:=by
 induction r with
 |nil=>exactλi en l σ m p E h=>.inr ⟨p _,nC E h rfl⟩
 |cons v r A =>
 intro i en l σ m p E h;exact .inl ⟨v,m 0 v _ rfl,oK h λFd h1 h=>T5 ok st hq z h1 E λl' w =>
  (JX (λen l B E h=>A (i+1) en l B (λj y H h=>by have:=m (j+1) y H h;rw[←ami,alf]at this;exact this) (λH=>by have:=p H;rw[WB,←ami,alf]at this;exact this) E h) (te x ok st h2 _ _ _ _ _ w h)).mono (λk _ _ q=>by cases k<;>exact q) λ_ _ _ q=>q⟩
theorem Oi(m:mQ S)(ok:bU c f cx)(st:hI f cx)(hq:c.quiet=W)(z:zV cx t=Y tg)(h2:mO S cx b=Y mb){a:Nat->bp}{e:Nat->List MO->Prop}(p:∀{i y H ys},H[zzJ]?=Y (.lst ys)->ys[i]?=Y y->a i (cond w (.tup [.int i,y]) y) H)(x:∀{i H ys},H[zzJ]?=Y (.lst ys)->ys[i]?=Sa->e i H)(n:Nat): ∀(i:Nat) (en:En) (l:Lc) (σ:Sg),dC cx.nm en l->forR tg mb K X zzJ w n i en σ.H->Fo c f t b (QS cx.nm K) (XS cx.nm X) a e n i l σ:=by
 induction n with
 |zero=>exactλi en l σ E h=>h.elim
 |succ n B =>
 intro i en l σ E h;exact oK h λys A h=>bK A λD hm g=>eK h
  (λv hi h=>.inl ⟨_,p (ui hm g) hi,oK h λFd h1 h=>T5 ok st hq z h1 E λl' j=>(JX (λen l C E h=>B (i+1) en l C E h) (te m ok st h2 _ _ _ _ _ j h)).mono (λk _ _ q=>by cases k<;>exact q) λ_ _ _ q=>q⟩)
  λhi h=>.inr ⟨x (ui hm g) hi,nC E h rfl⟩
theorem afK(l:List O):∀(i j:Nat) (v:O),(zr i l)[j]?=Y v->∃w,l[j]?=Y w/\v = .tup [.int (i+j:Nat),w]:=by
 induction l with
 |nil=>exactλi j v h=>nK h
 |cons x r a =>
  intro i j v h;induction j using cN with
  |zero=>exact⟨x,rfl,(UB h).symm⟩
  |succ j=>exact(a (i+1) j v h).imp λw q=>⟨q.1,by rw[q.2,alf];rfl⟩
theorem afL:∀(l:List O) (i:Nat),(zr i l).length=l.length:=by
 intro l;induction l with
 |nil=>exactλi=>rfl
 |cons x r a=>exactλi=>congrArg (· + 1) (a (i+1))
theorem ai1(H:cX r)(Q:mQ S)(ok:bU c f cx)(st:hI f cx)(h:SY r S cx t it b=Y M):dJ c f cx.nm (.For t it b [] p) M :=
 gK h λz h=>bt z λz1 z2=>bK h λtg N h=>bK h λmb hb h=>by
  have hq:=ok.quiet z1;have I:∀x,agc it f.env x=pure x:=λx=>I9 z2 _ x;have B:∀{en l σ K X C D} {ys:List O},dC cx.nm en l->forL tg mb K X ys en σ.H->(∀j y H,ys[j]?=Y y->C j y H)->(∀H,D ys.length H)->∃n,Fo c f t b (QS cx.nm K) (XS cx.nm X) C D n 0 l σ:=λ{en l σ K X C D ys} E h h1 h2 =>
   ⟨_,ada Q ok st hq N hb ys 0 en l σ (λj y H A=>by rw[akE];exact h1 j y H A) (λH=>by rw[akE];exact h2 H) E h⟩
  refine Bc h (λe he h=>?_) λ_ h=>Bc h (λe he h=>bK h λes hes h=>?_) λ_ h=>?_
  .revert I;exact Iz (P:=λit=>(∀x,agc it f.env x=pure x)->dJ c f cx.nm (.For t it b [] p) M) ok he λx np p' hn Z g2 I=>ie (P:=λM=>dJ c f cx.nm _ M) H ok h λm hm en l σ K X E h=>Ed I (V1 hq hn (tK Z g2 ⟨rfl,hm.st E (cast Oh h) λv L h=>oK h λys A h =>
    SR (P:=λv ys=>forL tg mb K X ys en L.H->∃n,v = .int n/\agb 0 n 1=W/\∃m,Fo c f t b (QS cx.nm K) (XS cx.nm X) (λi x _=>(i:Int)< VS 0 n 1/\x = .int i) (λi _=>VS 0 n 1<=(i:Int)) m 0 l L) A (λn h0 h1 h=>by
     refine a9 (SH h0 h1) λr1 r2=>?_;refine⟨n,rfl,r1,B E h (λj y H A=>?_) λH=>?_⟩
     .refine a9 (J1 _ _ _ _ A) λa b=>?_;rw[r2];exact⟨aqE.mp a,by rw[b,aoD]⟩
     .rw[r2,Us];exact ao6 n) h⟩))
  .revert I;exact Iz (P:=λit=>(∀x,agc it f.env x=pure x)->dJ c f cx.nm (.For t it b [] p) M) ok he λx np p' hn Z g2=>UM (P:=λt=>(∀{en l σ K X C D} {ys:List O},dC cx.nm en l->forL tg mb K X ys en σ.H->(∀j y H,ys[j]?=Y y->C j y H)->(∀H,D ys.length H)->∃n,Fo c f t b (QS cx.nm K) (XS cx.nm X) C D n 0 l σ)->zV cx t=Y tg->(∀x,agc _ f.env x=pure x)->dJ c f cx.nm (.For t _ b [] p) M) hes (λa p'' B N I=>ie (P:=λM=>dJ c f cx.nm _ M) H ok h λm hm en l σ K X E h=>Ed I (VB hq hn (tK Z g2 ⟨rfl,hm.st E (cast Og h) λv L h=>eK h
     (λys A h=>by
      rw[CS A];refine⟨⟨ys,rfl⟩,B E h (λj y H A=>?_) λH=>⟨ys,rfl,by rw[afL];exact WN (VJ _)⟩⟩;refine aU (afK _ _ _ _ A) λw a b=>?_;exact⟨ys,w,rfl,a,by rw[b,akE]⟩)
     λ_ h=>oK h λq hq' h=>qC hq' λe hk=>by
      rw[e];exact⟨⟨q.2,uS.mpr hk⟩,jK,Oi Q ok st hq N hb (λG hi=>⟨_,_,uS.mpr G,hi,rfl⟩) (λG hi=>⟨_,uS.mpr G,hi⟩) jK 0 en l L E h⟩⟩))) B N
  .exact ie (P:=λM=>dJ c f cx.nm _ M) H ok h λm hm en l σ K X E h=>Ed I (V0 (hm.st E (cast B1 h) λv L h=>eK h
    (λys A h=>aK A
     (λA=>by rw[CS A];exact⟨_,_,Ku hq,B E h (λj y H h=>h) λH=>WN (VJ _)⟩)
     λA=>aK A (λA=>by rw[n0 A];exact⟨_,_,Kw hq,B E h (λj y H h=>h) λH=>WN (VJ _)⟩)
     λA=>aK A (λA=>bK A λs I A=>gK A λha A=>by
      rw[gP I];rw[←UB A]at h;refine⟨_,_,V2 hq ha,B E h (λj y H A=>?_) λH=>?_⟩
      .rw[A4,aeQ]at A;cases q:s.cps.toList[j]? with
       |none=>rw[q]at A;exact bN A
       |some w=>rw[q]at A;exact⟨w,by rw[←q];simp,(UB A).symm⟩
      .show s.cps[(A4 _).length]?=Sa;rw[A4,VO];simp)
     λA=>bK A λa ha A=>bK A λkvs hk A=>by
      rw[tM ha];rw[←UB A]at h;refine mG (VA (c:=c) (f:=f) (σ:=L) (tg:=t) hq (ok.T.bd _ _ hk)) λC D k1 k2 k3=>?_;refine⟨C,D,k1,B E h (λj y H A=>?_) λH=>k3 _ _ ?_⟩
      .rw[aeQ]at A;cases q:kvs[j]? with
       |none=>rw[q]at A;exact bN A
       |some w=>rw[q]at A;rw[←UB A];exact k2 _ _ _ q
      .rw[VO];exact WN (VJ _))
    λ_ h=>oK h λj G h=>by
     rw[Em G];exact oK (show oP _ _ from h) λys A _=>bK A λmo hm g=>⟨_,_,Kv hq (ui hm g),jK,Oi Q ok st hq N hb (λG hi=>⟨_,G,hi⟩) (λG hi=>⟨_,G,hi⟩) jK 0 en l L E h⟩))
theorem ai4(H:cX r)(ok:bU c f cx)(h:Ta r cx e=Y M):dJ c f cx.nm (.Raise (Y e) Sa p) M :=
 gK h λz h=>bt z λhq _=>ie (P:=λM=>dJ c f cx.nm _ M) H ok h λm hm en l σ K X E h=>X2 (ok.quiet hq) (hm.st E h λv C h=>oK h λp b q=>bK b λi b h=>gK h λz h=>bt z λA j=>Eo b λe y=>by
  have h:=UB h;subst h;refine VF (ok.eA _ (kX A)) λx w=>?_;exact⟨i.1,i.2.1,i.2.2,x,e,y,w,λq=>(by rw[q]at j;exact bD j),λB a=>⟨en,E,by rw[a];exact q⟩⟩)
theorem SP(h:iO c vs xs):iO c.loud vs xs:=by
 induction h with
 |nil=>exact .nil
 |cons a b e=>exact .cons a e
theorem aar{kvs:List (AK×O)}(h:gZ c a kvs):gZ c.loud a kvs:=by
 cases h
 .rename_i D R e k;exact gZ.«ints» D (SP R) e k
 .rename_i D R e k;exact gZ.«strs» D (SP R) e k
theorem adU(ok:bU c f cx)(e:VD):bU c.loud (f.mark e) cx.PL where
 kind:=ok.kind
 kd:=ok.kd
 oJ:=ok.oJ
 gl:=ok.gl
 fn:=λa F h=>nomatch h
 me:=λn t C F h h2=>nomatch h
 cm:=λn t C F h h2=>nomatch h
 ex:=ok.ex
 at_:=ok.at_
 st:=ok.st
 dK:=ok.dK
 eA:=λC h=>by refine VF (ok.eA C h) λj b=>?_;exact⟨j,b.at_,b.init,b.fn⟩
 T:=⟨λa i h=>aar (ok.T.bd a i h),ok.T.low,ok.T.hex,ok.T.gf⟩
 it:=ok.it
 hd:=ok.hd
 quiet:=λh=>nomatch h
theorem abb(nm:List Str)(en:En):dC nm (clean en) []:=λx i v _ h=>by
 rw[clean,aeQ]at h;cases q:en[i]? with
 |none=>rw[q]at h;exact bN h
 |some w=>rw[q]at h;cases h
theorem aiL{q:Str×Str×List ajc}{P:ExceptHandler->Prop}(e:UJ h=Y q)(k:∀b a i p,q.2.2=b::a->P (.ExceptHandler (Y (.Name q.1 i)) (Y q.2.1) (b::a) p)):P h:=by
 cases h with
 |ExceptHandler t x b p =>
  exact bK e λA j e=>bK e λy m e=>bK e λw hx e=>gK e λz e=>by
   induction b using cL with
   |nil=>exact bD z
   |cons b a =>
    rw[j,hx];refine tl (P:=λt=>P (.ExceptHandler (Y t) (Y w) (b::a) p)) m λi=>?_;have e:=UB e;subst e;exact k b a i p rfl
theorem aa0(L:mQ S)(ok:bU c f cx)(st:hI f cx):∀{y:List Hd}{C:Nat}{fs:List (Str×O)},FH S cx hs=Y y->dC cx.nm en l->qU K y C fs en σ.H->Catch c f (QS cx.nm K) ⟨C,fs⟩ l σ hs:=by
 induction hs with
 |nil=>intro y C fs h E e;rw[←UB h]at e;exact e.elim
 |cons I rest ih =>
 intro y C fs h E e;exact bK h λq hq h=>bK h λg T h=>bK h λD Q h=>gK h λZ h=>bK h λi hi h=>bK h λpr lz h=>bK h λm hm h=>bK h λM h2 h=>by
  rw[←UB h]at e;refine aiL (P:=λI=>Catch c f (QS cx.nm K) ⟨C,fs⟩ l σ (I::rest)) hq λb bs yp p hb=>yx ok T λA zq=>iY zq λw B j G=>?_;rw[tM Q]at j G;have hw:w = .ref D:=(G ⟨λ_=>0,0,λ_=>False⟩ λ_ _=>id).B7;have kO:c.mg q.1=Y (.ref D):=by
   rcases j with j|⟨j,_⟩
   .rw[j,hw]
   .exact absurd rfl (j D)
  rw[hb]at hm;exact cK e (λa h=>.hit ⟨D,B,A,kO,(ok.hd _ _ lz).1 _ (kX a)⟩ ⟨(ok.kd q.2.1).trans (y7 Z),λN =>
   (te L (adU ok N) (λz hz=>st z hz) hm _ _ σ _ _ (E.put hi) h).mono (λk l' τ q=>q.elim λen' q=>⟨_,abb _ en',q.2⟩) λl' x τ q=>q.elim λ_ q=>q.2⟩)
   λ_ h=>bE h λa h=>.miss ⟨D,B,A,kO,(ok.hd _ _ lz).2 _ (kX a)⟩ (ih h2 E h)
theorem ai6(i:mQ S)(ok:bU c f cx)(st:hI f cx)(h:Td S cx b e=Y M):dJ c f cx.nm (.Try b e [] [] p) M :=
 gK h λz h=>bt z λ_ nn=>bK h λmb hb h=>bK h λj a h=>sK (P:=λM=>dJ c f cx.nm _ M) h λen l σ K X E h'=>by
  induction e using cL with
  |nil=>exact bD nn
  |cons m e=>exact X6 ((te i ok st hb en l σ _ _ E h').mono (λ_ _ _ q=>q) λl' x w q=>q.elim λen' q=>aa0 i ok st a q.1 q.2)
noncomputable abbrev wG(p:Str×O)(l:Lc):Lc:=cC p.1 p.2 l
theorem ac8{n:Str}{v:O}{l:Lc}:∀{ps:List (Str×O)},(∀p∈ps,p.1≠n)->∀z,(ps.foldr wG (cC n v l)).lookup z=(cC n v (ps.foldr wG l)).lookup z:=by
 intro ps;induction ps with
 |nil =>
  exact@λ_ z=>rfl
 |cons p ps a =>
  exact@λh z=>by
   show(cC p.1 p.2 (ps.foldr wG (cC n v l))).lookup z=(cC n v (cC p.1 p.2 (ps.foldr wG l))).lookup z;rw[my,a (λq hq=>h q (.tail _ hq)) z,my,my,my];by_cases e:z=n
   .rw[VP λq=>h p (.head _) (q.symm.trans e),VY e,VY e]
   .rw[VP e,VP e]
inductive kq (cx:Cx):List VC->List Str->List Nat->Prop
 |nil:kq cx [] [] []
 |cons {x p i es xs is}:wZ cx x=Y i->kq cx es xs is->kq cx (.Name x p::es) (x::xs) (i::is)
theorem afv:∀{es:List VC}{is:List Nat},slotsOf cx es=Y is->∃xs,kq cx es xs is:=by
 intro es;induction es with
 |nil =>
  exact@λis h=>sK (P:=λis=>∃xs,kq cx [] xs is) h ⟨[],.nil⟩
 |cons e es j =>
  exact@λis h=>bK h λx hx h=>bK h λi hi h=>bK h λb h2 h=>sK (P:=λis=>∃xs,kq cx (e::es) xs is) h (by
   refine VF (j h2) λxs a=>?_;exact tl (P:=λe=>∃xs,kq cx (e::es) xs (i::b)) hx λp=>⟨x::xs,.cons hi a⟩)
theorem kq.mem(ok:bU c f cx)(st:hI f cx)(N:kq cx es xs is):∀x∈xs,∃i∈is,pD f x/\posOf x cx.nm=Y i:=by
 induction N with
 |nil=>exactλx m=>nomatch m
 |cons h r a=>exactλx m=>(WM.mp m).elim (λe=>⟨_,.head _,by rw[e];exact w0 ok st h⟩) λm=>aU (a x m) λi hi k=>⟨i,.tail _ hi,k⟩
theorem kq.len(N:kq cx es xs is):es.length=xs.length/\is.length=xs.length:=by
 induction N with
 |nil=>exact⟨rfl,rfl⟩
 |cons _ r a=>exact⟨congrArg (· + 1) a.1,congrArg (· + 1) a.2⟩
theorem Tq:∀{is:List Nat}{vs:List O}{en en':En},nQ is vs en=Y en'->is.length=vs.length
 | [],[],_,_,_=>rfl
 | [],_::_,_,_,h=>nomatch h
 |_::_,[],_,_,h=>nomatch h
 |i::is,v::vs,en,en',h=>congrArg (· + 1) (Tq (is:=is) (vs:=vs) (en:=en.set i (Y v)) (en':=en') h)
theorem aid(ok:bU c f cx)(st:hI f cx)(N:kq cx es xs is):∀{vs:List O}{en en':En}{l:Lc},zk is=W->nQ is vs en=Y en'->dC cx.nm en l->dC cx.nm en' ((xs.zip vs).foldr wG l):=by
 induction N with
 |nil =>
  exactλ{vs en en' l} _ m E=>by
   induction vs using cL with
   |nil=>rw[←UB m];exact E
   |cons _ _=>exact bN m
 | @cons x p i es xs is h r H =>
  exactλ{vs en en' l} nd m E=>by
   induction vs using cL with
   |nil=>exact bN m
   |cons v vs =>
    exact bt (b:=zk is) nd λA B=>by
     have D:=(w0 ok st h).2;have z:=H B (show nQ is vs (en.set i (Y v))=Y en' from m) (E.put (v:=v) D)
     refineλy j w a b=>(ac8 (λp G q=>?_) y).symm.trans (z y j w a b)
     refine iY (r.mem ok st p.1 (akC G).1) λj C _ e=>?_;rw[q,D]at e;rw[←UB e]at C;exact aml ((oL A).symm.trans ((QO i is).mpr C))
theorem aha{a:List Str}{xs:List O}(h:xs.length=a.length)(l:Lc):(a.reverse.zip xs.reverse).foldl (λl p=>cC p.1 p.2 l) l=(a.zip xs).foldr wG l:=by
 have e:a.reverse.zip xs.reverse=(a.zip xs).reverse:=(List.reverse_zipWith (f:=Prod.mk) h.symm).symm;rw[e,List.foldl_reverse]
theorem ac0{g:VC->Option Str}(a:∀x p,g (.Name x p)=Sa∨g (.Name x p)=Y x)(N:kq cx es xs is):(es.filterMap g).length=es.length->es.filterMap g=xs:=by
 induction N with
 |nil=>exactλ_=>rfl
 | @cons x p i es xs is h r b =>
  exactλe=>by
   rw[alM]at e ⊢;rcases a x p with q|q
   .rw[q]at e;have le:(es.filterMap g).length<=es.length:=List.length_filterMap_le g es;exact absurd (VR (ak4 (show(es.filterMap g).length=es.length+1 from e).symm) le) (Nat.not_succ_le_self _)
   .rw[q]at e ⊢;exact congrArg (x :: ·) (b (amo e))
def vj(xs:List Str)(z:Sem (Option (List Str))):Prop:=z=pure Sa∨z=pure (Y xs)
theorem aie(N:kq cx es xs is)(a:JR v=W):aks [.Tuple es k p] v env=pure Sa∨aks [.Tuple es k p] v env=pure (Y xs):=by
 cases v<;>first|exact .inl rfl|skip
 rename_i vs i j
 have a:cond (vs.all (foldedForSure 8)) W (bX (vs.all (constantsAlone 8)))=W:=a;unfold aks;show vj xs _;refine wc (P:=vj xs) (λ_=>.inl rfl) λ_=>wc (P:=vj xs) (λ_=>.inl rfl) λ_=>wc (P:=vj xs) (λ_=>.inl rfl) λb=>wc (P:=vj xs) (λ_=>.inl rfl) λe=>wc (P:=vj xs) (λh=>?_) λ_=>?_
 .rw[Bool.not_eq_true]at e;rw[e,h]at a;exact bD a
 .rw[amx,not_or,bne_iff_ne,bne_iff_ne,Classical.not_not]at b;refine .inr (congrArg (λl=>pure (Y l)) (ac0 (λx p=>?_) N b.1));exact wc (P:=λz=>z=Sa∨z=Y x) (λ_=>.inr rfl) λ_=>.inl rfl
theorem zo(h:bX (sI v)=W):amf [t] v n env=pure UA:=Rh h (Y t) n env
theorem qG.mono{f':Fc}{l:Lc}{a:Sg}{X i:QX}{K e:Bool->Sg->Prop}{ifs:List VC}(h:qG c f' l a X K ifs)(k:∀b a,K b a->e b a)(j:∀x a,X x a->i x a):qG c f' l a i e ifs:=by
 induction ifs using cL with
 |nil=>exact k _ _ h
 |cons t r =>
  induction r using cL with
  |nil=>exact xB.mono h k j
  |cons _ _=>exact h
theorem Cp.mono{f':Fc}{x:Str}{p:VC}{ifs:List VC}{m:Lc}{D:Nat}{e:Nat->bp}{j:Nat->List MO->Prop}{Q A:List O->Sg->Prop}{X B:QX}(k:∀a τ,Q a τ->A a τ)(E:∀x τ,X x τ->B x τ){n:Nat}: ∀{i:Nat}{acc:List O}{τ:Sg},Cp c f' x p ifs m D e j Q X n i acc τ->Cp c f' x p ifs m D e j A B n i acc τ:=by
 induction n with
 |zero=>exactλh=>h
 |succ n C=>exactλh=>h.imp (λh=>h.imp λy h=>⟨h.1,h.2.mono (λb τ h=>by
   induction b using cB with
   |true=>exact jW.mono h (λz H h=>h.imp λacc h=>⟨h.1,h.2.1,λG w=>C (h.2.2 G w)⟩) E
   |false=>exact C h) E⟩) λh=>⟨h.1,k _ _ h.2⟩
theorem ky.mono{tg e:VC}{p a:(Nat->bp)->(Nat->List MO->Prop)->Sg->Prop}{X X':QX}(H:ky c f tg e l σ p X)(k:∀g s b,p g s b->a g s b)(z:∀x b,X x b->X' x b):ky c f tg e l σ a X':=λs y => QL (H s y) (λv s₁ i g st m j D q=>⟨i,g,st,m,j,D,k _ _ _ q⟩) λe s' ⟨x,l',h,T,w,S,el,q⟩=>⟨x,l',h,T,w,S,el,z _ _ q⟩
theorem aiY(ok:bU c f cx)(st:hI f cx)(hq:c.quiet=W){es:List VC}{k:Nat}{v:VC}{tp p:Pos}{is:List Nat}{m:EM O}(y:bX (sI v)=W)(w:JR v=W)(hi:slotsOf cx es=Y is)(nd:zk is=W)(hm:b6 c f cx.nm v m):dJ c f cx.nm (.Assign [.Tuple es k tp] v p) (d8 is m):=λen l σ K X E h=>by
 refine VF (afv hi) λxs N=>?_;have run:∀{G:QV},(∀vs en' a,nQ is vs en=Y en'->K .next en' a.H->G (.tup vs) a)->bG c f v l σ G (XS cx.nm X l):=λ{G} k=>hm.st E h λx a h=>oK h λen' h1 q=>bK h1 λvs L b=>by rw[n0 L];exact k vs en' a b q
 rcases aie (k:=k) (p:=tp) (env:=jy f.env.scope) N w with hw|hw
 .refine Ap (zo y) hw rfl (run λvs en' a b h=>?_);refine hX (Ts (c:=c) (f:=f) (σ:=a) ok st (Q:=λj e=>QS cx.nm K .next j e) (X:=XS cx.nm X) hi b E λl' A=>nC A h rfl) λM B C D=>?_;exact Kc hq C B D
 .refine X5 hq (zo y) hw (λn I=>by refine iY (N.mem ok st n I) λi _ k _=>?_;exact k) (run λvs en' a b h=>?_);have z:vs.length=xs.length:=(Tq b).symm.trans N.len.2;refine⟨vs,rfl,z,?_⟩;rw[aha z];exact nC (aid ok st N nd b E) h rfl
theorem adl{Q:Fl->Lc->Sg->Prop}{X:Lc->QX}(H:dZ c f t l σ (λfl l' b=>fl = .next/\∃k m z,l'=cC y (.ref k) l/\b.H[k]?=Y m/\q7 m=Y z/\∀A:Sg,A.H=b.H.set k .dead->Q .next (cC y z l) A) X):dZ c f t l σ Q X:=λs B =>
 nz (H s B) (λfl s' G l' b r h S q=>by
  obtain⟨i,k,m,z,D,C,E,q⟩:=q;subst i D;have a:=h.free k;refine⟨.next,cC y z l,b.free k,?_,⟨a.g,a.ns,λx w hx=>?_,a.iB,a.own,a.nd,a.kind,a.glob,a.lR,a.top⟩,S.trans (aQ.free k),q _ rfl⟩
  .cases fl<;>first|exact r|exact r.elim
  .rw[my]at hx;by_cases e:x=y
   .rw[VY e]at hx;refine aU (h.vars x (.ref k) (by rw[my,VY e])) λv j rv=>?_;rw[rv.nN.1]at j;exact⟨_,j,by rw[←UB hx];exact Fz h.g C E⟩
   .rw[VP e]at hx;exact a.vars x w (by rw[my,VP e];exact hx)) λ_ _ p=>p
theorem aeW(ok:bU c f cx)(h:IJ cx x px sc p=W):amS (.ListComp elt gens sc p) (Y (.Name x px)) n (jy f.env.scope)=pure W:=bt h λh y=>bt h λh w=>bt h λz m=>by
 show(pure ((jy f.env.scope).blockKind == .function&&(jy f.env.scope).kindOf x == Y .local&&px.line == p.line && !(sc.names.any λ(n,k)=>n == x&&(k == .local||k == .cell))):Sem Bool)=pure W
 congr 1
 have b1:((jy f.env.scope).blockKind == .function)=W:=by
  show((if f.env.scope.kind.isAnnotationScope then ScopeKind.function else f.env.scope.kind) == .function)=W;rw[ok.kind];rfl
 have b2:((jy f.env.scope).kindOf x == Y .local)=W:=by
  rw[show(jy f.env.scope).kindOf x=Y .local from(ok.kd x).trans (y7 m)];rfl
 have b:(sc.names.any λ(n,k)=>n == x&&(k == .local||k == .cell))=UA:=by
  rw[List.any_eq_false];intro a e q;obtain⟨n,k⟩:=a;refine bt q λi j=>?_;have:=oL (xD y _ e);rw[vB,i]at this;cases k<;>first|exact absurd j (by decide)|exact w5 this
 rw[b1,b2,b,w];rfl
theorem UK{q:VC×List alK×akz×Pos}{P:VC->Prop}(h:J6 e=Y q)(k:P (.ListComp q.1 q.2.1 q.2.2.1 q.2.2.2)):P e:=by
 rw[eT (K:=λq=>e = .ListComp q.1 q.2.1 q.2.2.1 q.2.2.2) (by cases e<;>first|exact trivial|exact rfl) h];exact k
theorem ai3(ok:bU c f cx)(st:hI f cx){x:Str}{px p q:Pos}{i:Nat}{m:EM O}{j:VC}{a:List alK}{sc:akz}(hi:wZ cx x=Y i)(z:IJ cx x px sc q=W){I:Rc}(L:cX I)(M:xX I cx j a sc=Y m):dJ c f cx.nm (.Assign [.Name x px] (.ListComp j a sc q) p) (bA i m):=λen l σ K X E h=>by
 refine zy (Ni M) λx' D G ifs e C=>?_;rw[e];have c:=w0 ok st hi;refine a9 (C.run (px:=D) L ok E h) λT Z=>?_;refine adl (y:=x) (XX (Q:=λfl l' b=>fl = .next/\∃k m z,l'=cC x (.ref k) l/\b.H[k]?=Y m/\q7 m=Y z/\∀w:Sg,w.H=b.H.set k .dead->QS cx.nm K .next (cC x z l) w) (ok.quiet C.q) T (I9 C.set _) (aeW ok z) c.1 ?_);exact Z.mono (λg s w h f' sf ρ A=>(h f' sf ρ A).elim λn N=>⟨n,N.mono (λacc π q=>⟨rfl,q.imp λk q=>q.imp λmo q=>q.imp λzz q=>⟨by rw[q.1],q.2.1,q.2.2.1,λψ B=>nC (E.put c.2) (q.2.2.2 ψ B) rfl⟩⟩) λx w q=>⟨en,E,q⟩⟩) λx w q=>⟨en,E,q⟩
theorem ah9:aks [.Name x p] v env=pure Sa:=by cases v<;>rfl
theorem ah8:aks [.Attribute a x p] v env=pure Sa:=by cases v<;>rfl
theorem aib:aks [.Subscript a b p] v env=pure Sa:=by cases v<;>rfl
theorem aiX(H:cX r)(ok:bU c f cx)(st:hI f cx)(N:SV r cx t v=Y M0)(Q:∀m,r.E cx v=Y m->∀q,J6 v=Y q->∃I,cX I/\xX I cx q.1 q.2.1 q.2.2.1=Y m):dJ c f cx.nm (.Assign [t] v p) M0:=eT (K:=λM=>dJ c f cx.nm (.Assign [t] v p) M) (by
 cases t<;>first|exact trivial|refine eW λM h=>?_
 case Name x px =>
  exact bK h λi hi h=>Bc h
   (λq hq h=>gK h λz h=>bK h λm hm h=>sK (P:=λM=>dJ c f cx.nm _ M) h (by
    refine aU (Q m hm q hq) λI B A=>?_;exact UK (P:=λv=>dJ c f cx.nm (.Assign [.Name x px] v p) (bA i m)) hq (ai3 ok st hi z B A)))
   λ_ h=>gK h λA h=>ie (P:=λM=>dJ c f cx.nm _ M) H ok h λm hm en l σ K X E h=>by
    have s:=w0 ok st hi;exact Ap (zo A) ah9 rfl (hm.st E h λy L h=>D0 s.1 (nC (E.put s.2) h rfl))
 case Tuple es k tp =>
  exact gK h λz h=>bt z λz z4=>bt z λz z3=>bt z λz1 _=>bK h λis hi h=>gK h λnd h=>ie (P:=λM=>dJ c f cx.nm _ M) H ok h λm hm=>aiY ok st (ok.quiet z1) z3 z4 hi nd hm
 case Attribute o a ap =>
  exact gK h λA h=>bK h λq hq h=>lW (P:=λM=>dJ c f cx.nm _ M) H ok h λT Z C G en l σ K X E h =>
   Ap (zo A) ah8 rfl (G.st E h λy L h=>UR (C.st E h λw ρ h=>oK h λB D h=>XT (ok.st _ _ hq) D λπ j=>nC E h j))
 case Subscript o i ap =>
  exact gK h λA h=>bK h λT C h=>lW (P:=λM=>dJ c f cx.nm _ M) H ok h λmi Z hi G en l σ K X E h =>
   Ap (zo A) aib rfl (G.st E h λy L h=>UT ((H.e ok C).st E h λa ρ h=>hi.st E h λb ψ h=>oK h λB D h=>KN D λπ j=>nC E h j))) N
theorem Vu{k:Nat}{xs:List O}{i:Int}{j:Nat}{y:O}{Q:QV}{X:QX}(m:σ.H[k]?=Y (.lst xs))(e:ahS i xs.length=Y j)(lo : -(2 ^ 63)<=i)(hi:i < 2 ^ 63)(x:xs[j]?=Y y)(h:Q y σ):bV c f ang (.ref k) (.int i) l σ Q X:=λv w s b r z=>by
 refine VF z.int_inv λt a=>?_;subst a;refine a9 r.nN λa _=>?_;subst a;refine dH (b.g.objs k _ m) λ_ vs n g r=>?_;refine aU (r.get x) λu p A=>?_;exact list_item g rfl rfl (by rw[r.length];exact e) lo hi p (dy b A h)
theorem WW{a b:Int}{Q:QV}{X:QX}(h:Q (.int (a+b)) σ):bV c f (inplaceOp .Add) (.int a) (.int b) l σ Q X:=λv w s i r j=>by
 refine VF r.int_inv λt e=>?_;subst e;refine VF j.int_inv λu e=>?_;subst e;exact wpAny_iadd_int ((dy i (.int _ _) h))
theorem aam{x:O}{i a:Int}{P:Prop}(h:Lm x (.int i) σ.H=Y a)(k:∀j xs m,x = .ref j->σ.H[j]?=Y (.lst xs)->qz i=W->ahS i xs.length=Y m->xs[m]?=Y (.int a)->P):P :=
 bK h λp A h=>qC A λe z=>bK h λy b h=>bK b λB w b=>by
  rw[←UB w]at b;exact gK b λsm b=>bK b λm hm b=>k p.1 p.2 m e z sm hm (by rw[b,kz h])
theorem aiZ(H:cX r)(ok:bU c f cx){t v:VC}{A:anx}{p:Pos}{M:SM}(h:SW r cx t A v=Y M):dJ c f cx.nm (.AugAssign t A v p) M :=
 bK h λq hq h=>bK h λi hi h=>gK h λz h=>by
  have e1:∃tp,t = .Subscript q.1 q.2 tp:=eT (K:=λq=>∃tp,t = .Subscript q.1 q.2 tp) (by cases t<;>first|exact trivial|exact⟨_,rfl⟩) hq;have e2:A = .Add:=bT (by cases A<;>first|exact trivial|exact rfl) z;refine VF e1 λtp e1=>?_;rw[e1,e2];exact DY (P:=λI=>dJ c f cx.nm (.AugAssign (.Subscript q.1 I tp) .Add v p) M) hi λa b=>lW (P:=λM=>dJ c f cx.nm _ M) H ok h λQ m G hm en l σ K X E h=>XU (λ_ _ _=>rfl) (G.st E h λx Z h=>K3 (oK h λN C h=>aam C λj xs n e D sm e1 e2=>by
   rw[e];exact Vu D e1 (o5 sm).1 (o5 sm).2 e2 (hm.st E h λy T h=>oK h λL w h=>bK w λb hb w=>by
    rw[e]at w;rw[kz hb];exact WW (KN w λψ B=>nC E h B))))
theorem adB(a:mQ S)(ok:bU c f cx)(st:hI f cx)(h:OC (rc (n+1)) S cx s=Y M):dJ c f cx.nm s M:=eT (K:=λM=>dJ c f cx.nm s M) (by
 have H:=SI (n+1);cases s<;>first|exact trivial|refine eW λM h=>?_
 .exact ai5 H ok h
 ·
  exact bK h λt b h=>by
   rw[gI b];exact aiX H ok st h λm hm q hq=>⟨rc n,SI n,by rename_i v _;revert hm;exact UK (P:=λv=>(rc (n+1)).E cx v=Y m->_) hq λhm=>hm⟩
 .exact aiZ H ok h
 .exact gK h λz h=>by rw[kY z];exact ai1 H a ok st h
 .exact gK h λz h=>by rw[kY z];exact ai7 H a ok st h
 .exact ai2 H a ok st h
 .exact bK h λe he h=>gK h λz h=>by rw[he,CI z];exact ai4 H ok h
 .exact gK h λz h=>bt z λi j=>by rw[kY i,kY j];exact ai6 a ok st h
 .exact ai0 H ok h
 .exact sK (P:=λM=>dJ c f cx.nm _ M) h λen l σ K X E h=>X1 ⟨en,E,h⟩
 .exact sK (P:=λM=>dJ c f cx.nm _ M) h λen l σ K X E h=>XW ⟨en,E,h⟩) h
theorem ahf(n:Nat):∀m,mQ (rs (rc (n+1)) m):=by
 intro m;induction m with
 |zero =>
  exactλ_ _ _ _ h=>nomatch h
 |succ m a =>
  exactλok st _ _ h=>adB (a) ok st h
theorem abo(ok:bU c f cx)(st:hI f cx)(h:comp (n+1) cx b=Y M):Aq c f cx.nm b M:=te (ahf n (n+1)) ok st h
end
structure z9 (c:GC) (N:Nat) (cx:Cx) (sc:akz):Prop where
 kind:sc.kind = .function
 kd:cx.kd=sc.names
 oJ:∀x∈cx.nm,uV x=W
 gl:∀x v,look x cx.gl=Y v->nX c x v
 fn:∀a F,eJ a cx.fn=Y F->dM c N (.ref a) F/\dW c (.ref a)
 me:∀n tab C F,look n cx.me=Y tab->eJ C tab=Y F->∃a,jq c.K C/\qM c.K C n a/\dM c N (.ref a) F/\dW c (.ref a)
 cm:∀C t n F,eJ C cx.cm=Y t->look n t=Y F->∃a mc,alC c.K (.ref C) "__getattribute__" = Y (Y (.builtin "type.__getattribute__"))/\anh c.K C mc=W/\ak9 c.K (.ref C) mc n=Y (.val (.ref a))/\dM c N (.ref a) F/\dW c (.ref a)
 ex:ak9 c.K (.type "Exception") (.type "type") "__init__" = Y (.val (.builtin "Exception.__init__"))
 at_:∀n p,look n cx.at_=Y p->z8 c.K n p
 st:∀n p,look n cx.st=Y p->Ar c.K n p
 dK:Ag c.K cx.dK
 eA:Ad c cx.eA
 T:xv c cx.T
 it:Ah cx.it
 hd:∀D p,eJ D cx.hd=Y p->(∀C∈p.1,pg c C D W)/\∀C∈p.2,pg c C D UA
 quiet:cx.quiet=W->c.quiet=W
section
variable{c:GC}{N:Nat}{cx:Cx}
theorem z9.ok(G:z9 c N cx sc)(b:N<=f.n)(e:f.env.scope=sc):bU c f cx where
 kind:=by rw[e];exact G.kind
 kd:=λx=>by show f.env.scope.names.lookup x=_;rw[e,G.kd,oH]
 oJ:=λx i h=>Ji (G.oJ x (ak0 (wF h)))
 gl:=G.gl
 fn:=λa F h=>⟨(G.fn a F h).1.up b,(G.fn a F h).2⟩
 me:=λn t C F h h2=>(G.me n t C F h h2).imp λa q=>⟨q.1,q.2.1,q.2.2.1.up b,q.2.2.2⟩
 cm:=λn t C F h h2=>(G.cm n t C F h h2).imp λa q=>q.imp λj q=>⟨q.1,q.2.1,q.2.2.1,q.2.2.2.1.up b,q.2.2.2.2⟩
 ex:=G.ex
 at_:=G.at_
 st:=G.st
 dK:=G.dK
 eA:=G.eA
 T:=G.T
 it:=G.it
 hd:=G.hd
 quiet:=G.quiet
theorem aaA(nd:ps.Nodup)(n:Nat)(e:vs.length<=ps.length):dC (ps++rest) (zS vs n) (ps.zip vs):=λx i v f a=>by
 have hi:i < vs.length:=apD λb=>by
  rw[zS,am2 (by rw[VO];exact b),dS,List.getElem?_replicate]at a
  split at a<;>cases a
 rw[zS,akX (by rw[VO];exact hi),aeQ]at a;have h:vs[i]?=Y v:=by
  cases q:vs[i]? with
  |none=>rw[q]at a;exact bN a
  |some w=>rw[q]at a;exact congrArg Y (UB (UB a))
 have hx:=wF f;rw[akX (VT hi e)]at hx;have j:(ps.zip vs)[i]?=Y (x,v):=by rw[akA];exact⟨hx,h⟩
 exact CW (Kb nd) _ (ak0 j)
theorem aaB{a b p:Nat}(h:p<=a+b)(k:a<=p):a+(b - (a+b - p))<=p:=by omega
theorem aax{np:Nat}{defs xs vs:List O}(h:ME np defs xs=Y vs){a:FI}(i:a.params.length=np)(f:a.defs=defs):a.bind xs=Y (a.params.zip vs)/\vs.length<=np:=gK h λz h=>bt z λb e=>by
 have b:=WG b;have e:=WG e;subst i f;have h:=UB h;subst h;refine⟨?_,?_⟩
 .unfold FI.bind;rw[VY ⟨b,e⟩]
 .rw[VK,anC];exact aaB b e
theorem Oo{a:VI}{i:FI}{z:Nat}{defs:List O}{e n:Nat}{b:SM}{rest:List Str}(F:ph c a i)(G:z9 c N cx i.scope)(l:cx.nm=i.params++rest)(y:i.params.length=z)(H:i.defs=defs)(hb:comp (n+1) cx i.body=Y b):dM c (N+1) (.ref a) (bl z defs e b):=by
 intro m hm xs σ K X h;refine VF (alZ (VR (amB 1 N) hm)) λm j=>?_;subst j;refine oK h λvs p h=>?_;refine a9 (aax p y H) λI L=>?_;refine aaV F I λf C fs B=>?_;have ok:bU c f cx:=G.ok (C▸air hm) fs;have st:hI f cx:=λx hx=>B x (by rw[←G.kd,←oH];exact hx);refine oQ F λQ fd D _=>?_;have E:dC cx.nm (zS vs e) (i.params.zip vs):=by rw[l];exact aaA D.nodup _ (y▸L)
 exact(abo ok st hb _ _ σ _ _ E h).mono (λk l' M w=>aU w λen' A q=>by cases k<;>exact q) λl' x M w=>aU w λen' A q=>q
theorem jV.mono(H:jV c n fv xs σ Q X)(k:∀x b,Q x b->Q' x b)(h:∀x b,X x b->X' x b):jV c n fv xs σ Q' X':=λpv fr A s a G r =>
 ak2 (H pv fr A s a G r) λres s' p=>by
  cases res with
  |ok f=>cases f<;>first|exact p.elim|exact p.imp λx p=>p.imp λe p=>⟨p.1,p.2.1,p.2.2.1,k _ _ p.2.2.2⟩
  |error v=>exact p.imp λx p=>p.imp λe p=>⟨p.1,p.2.1,p.2.2.1,h _ _ p.2.2.2⟩
theorem Q0{i:VI}{F:Fn}{e:MO}{m:Nat}{xs:List O}{σ f:Sg}{K:bp}{X:KX}(h:dM c (N+1) (.ref i) F)(hm:N+1<=m)(a:f.H=σ.H++[e])(q:I3 e F xs σ.H K X):jV c m (.ref i) (.ref σ.H.length::xs) f (λr b=>r = .none/\QK K (.ref σ.H.length) b) (XK X):=by
 have q:F (.ref σ.H.length::xs) (σ.H++[e]) (λr G=>bP (p8 r) (K (.ref σ.H.length) G)) X:=q;rw[←a]at q;exact(h m hm _ f _ _ q).mono (λx j q=>bE (show bP (p8 x) (K (.ref σ.H.length) j.H) from q) λz q=>⟨v9 z,q⟩) λ_ _ q=>q
theorem aiW(hm:makesIn c.K C=W)(hi:aga c.K (.ref C) "__init__" = Y (Y (.ref fI)))(e:amw c.K (.ref fI)=Y (.type "function"))(h:dM c (N+1) (.ref fI) F):dM c (N+2) (.ref C) (nT C F):=by
 intro m kO xs σ K X q;refine VF (alZ (VR (amB 2 N) kO)) λm a=>?_;subst a;exact call_cls hm hi e λf b=>Q0 h (air kO) b q
theorem acw(e:tq c C fI)(h:dM c (N+1) (.ref fI) F):dM c (N+2) (.ref C) (Ab C F):=by
 intro m kO xs σ K X q;refine VF (alZ (VR (amB 2 N) kO)) λm a=>?_;subst a;exact bE q λz q=>call_exc e (c7 z) λf b=>Q0 h (air kO) b q
theorem jV.freeze(H:jV c n fv xs σ (λy h=>∃k m z,y = .ref k/\h.H[k]?=Y m/\q7 m=Y z/\∀j:Sg,j.H=h.H.set k .dead->Q z j) X):jV c n fv xs σ Q X:=λpv fr A s i G r =>
 ak2 (H pv fr A s i G r) λres s' p=>by
  cases res with
  |ok f =>
   cases f<;>first|exact p.elim|skip
   obtain⟨x,h,a,b,d,k,m,z,e,l,w,q⟩:=p;rw[e]at a;exact⟨z,h.free k,by rw[a.nN.1];exact Fz b l w,b.free k,d.trans (aQ.free k),q _ rfl⟩
  |error v=>exact p
theorem Oq(h:dM c N fv F):dM c N fv (xr F):=λm hm xs σ K X q =>
 jV.freeze ((h m hm xs σ _ _ q).mono (λx w q=>oK q λp a q=>bK a λk f a=>bK a λj e a=>bK a λz i a=>⟨k,j,z,Em f,e,i,λl b=>by
  rw[←UB a]at q;show K z l.H;rw[b];exact q⟩) λ_ _ q=>q)
theorem dM.le(h:dM c N fv F)(k:∀xs H K X,F' xs H K X->F xs H K X):dM c N fv F':=λm hm xs σ K X e=>h m hm xs σ K X (k _ _ _ _ e)
end
noncomputable def all2{a b:Type}(p:a->b->Bool):List a->List b->Bool
 | [],m=>(match m with | []=>W|_::_=>UA)
 |x::r,m=>match m with
  | []=>UA
  |y::q=>match p x y with|true=>all2 p r q|false=>UA
noncomputable def fC(a:Nat):af7->Option Obj
 | []=>Sa
 |(x,o)::r=>match VH a x with|true=>Y o|false=>fC a r
noncomputable def J2:VD->Option String
 | .type c=>Y c
 |_=>Sa
noncomputable def Nn:Data->Option (Array VD)
 | .seq vs _=>Y vs
 |_=>Sa
noncomputable def Rb{a:Type}:Option a->Bool
 |none=>W
 |some _=>UA
def JU(o:Obj):Option (List VD):=(J2 o.cls).bind λc=>(Nn o.data).bind λvs=>gd (c == "tuple" && Rb o.dict&&kg o.slots.toList) (Y vs.toList)
noncomputable def oO{b:Type}(o:Option b)(f:b->Bool):Bool:=match o with|some a=>f a|none=>UA
noncomputable def EF(x:O):VD->Bool
 | .builtin s=>(match x with | .bi t=>s == t|_=>UA)
 | .type s=>(match x with | .ty t=>s == t|_=>UA)
 |_=>UA
def p6(K:af7):Nat->VD->O->Bool
 |0,_,_=>UA
 |n+1,v,x=>match v with
  | .none=>p8 x
  | .bool a=>(match x with | .bool b=>a == b|_=>UA)
  | .int i _=>(match x with | .int j=>Bf i j|_=>UA)
  | .str s _=>(match x with | .str t=>dF s t|_=>UA)
  | .ref a=>(match x with
   | .gl b=>VH a b
   | .tup xs=>oO ((fC a K).bind JU) λvs=>all2 (p6 K n) vs xs
   |_=>UA)
  |w=>EF x w
section
variable{c:GC}
theorem adu(a:Nat):∀K:af7,fC a K=K.lookup a:=by
 intro K;induction K with
 |nil =>
  exact rfl
 |cons e r b =>
  obtain⟨x,o⟩:=e;exact by
   show(match VH a x with|true=>Y o|false=>fC a r)=_;rw[VZ,b];cases h:VH a x with
   |true=>have:=VW h;subst this;simp
   |false=>have:=alq h;rw[VQ.mpr this]
theorem q8(h:fC a c.K=Y o):c.base.get? a=Y o:=c.KX _ _ (by rw[←adu];exact h)
theorem qj{b:Type}{o:Option b}{f:b->Bool}{P:Prop}(h:oO o f=W)(k:∀a,o=Y a->f a=W->P):P:=by
 induction o with|none=>exact bD h|some a=>exact k a rfl h
theorem Ux{v:VD}{t:String}(h:J2 v=Y t):v = .type t:=eT (K:=λt=>v = .type t) (by cases v<;>first|exact trivial|exact rfl) h
theorem abC{d:Data}{vs:Array VD}(h:Nn d=Y vs):∃n,d = .seq vs n:=eT (K:=λvs=>∃n,d = .seq vs n) (by cases d<;>first|exact trivial|exact⟨_,rfl⟩) h
theorem Ul{o:Obj}{vs:List VD}(h:JU o=Y vs):∃n,o = { cls:=.type "tuple",data:=.seq vs.toArray n} :=
 bK h λc j h=>bK h λws hw h=>gK h λz h4=>bt z λz p=>bt z λl m=>(abC hw).elim λn e=>⟨n,by
  obtain⟨a,b,f,sl⟩:=o;have e1:a = .type "tuple":=by rw[show a=_ from Ux j,eq_of_beq l]
  have e2:b=Sa:=by induction b with|none=>rfl|some _=>exact bD m
  have i:sl = #[]:=apE.mp (kY p);rw[e1,e2,i,show f=_ from e,←UB h4]⟩
theorem Ld{a b:Type}{p:a->b->Bool}{x:a}{r:List a}{m:List b}{P:List b->Prop}(h:all2 p (x::r) m=W)(k:∀y q,p x y=W->all2 p r q=W->P (y::q)):P m:=by
 induction m using cL with
 |nil=>exact bD h
 |cons y q =>
  have h:(match p x y with|true=>all2 p r q|false=>UA)=W:=h;cases e:p x y with
  |true=>rw[e]at h;exact k y q e h
  |false=>rw[e]at h;exact bD h
theorem Lg{b a:Type}{p:b->a->Bool}{m:List a}{P:List a->Prop}(h:all2 p [] m=W)(k:P []):P m:=by
 induction m using cL with|nil=>exact k|cons _ _=>exact bD h
theorem Z0{K:af7}{n:Nat}{V:Vw}{h:WA}(i:∀v x,p6 K n v x=W->Rel V h v x)(vs:List VD):∀xs,all2 (p6 K n) vs xs=W->bg V h vs xs:=by
 induction vs with
 |nil=>exactλxs e=>Lg (P:=λxs=>bg V h [] xs) e .nil
 |cons v vs f=>exactλxs e=>Ld (P:=λxs=>bg V h (v::vs) xs) e λy q a b=>.cons (i _ _ a) (f q b)
theorem MB{V:Vw}{a:WA}{v:VD}{x:O}(h:EF x v=W):Rel V a v x:=by
 cases v<;>first|exact bD h|(cases x<;>first|exact bD h|(rw[eq_of_beq h];first|exact .bi _|exact .ty _))
theorem ad4(j:∀a,c.base.get? a≠Sa->¬V.T a)(n:Nat):∀v x,p6 c.K n v x=W->Rel V c.base v x:=by
 induction n with
 |zero=>exactλv x h=>bD h
 |succ n l =>
  intro v x h;cases v with
  |none=>rw[v9 h];exact .none
  |bool a=>cases x<;>first|exact bD h|(rw[eq_of_beq h];exact .bool _)
  |int i t=>cases x<;>first|exact bD h|(rw[(Bg _ _).mp h];exact .int _ _)
  |str i t=>cases x<;>first|exact bD h|(rw[(qV _ _).mp h];exact .str _ _)
  |ref a =>
   cases x with
   |gl b=>rw[VW h];exact .gl _
   |tup xs =>
    exact qj h λvs q h=>bK q λo f q=>(Ul q).elim λm e=>.tup (j _ (by rw[q8 f];exactλq=>sN q)) (e▸q8 f) (Z0 l _ _ h)
   |_=>exact bD h
  |_=>exact MB h
theorem CB(h:p6 c.K n v x=W):pj c v x:=λV a=>ad4 a n v x h
noncomputable def xV(o:Obj):Option (List VM):=match o with
 |⟨_,_,.dict es _,_⟩=>Y es.toList
 |_=>Sa
def Iu(n:Str):VD->Bool
 | .str s _=>dF s n
 |_=>UA
def q4(n:Str):List VM->Option VD
 | []=>Sa
 |e::r=>match Iu n e.key with|true=>Y e.val|false=>q4 n r
noncomputable def afF:O->Bool | .gl _=>UA|_=>W
noncomputable def afW{e:Type}(o:Option e)(f:e->Bool)(b:Bool):Bool:=match o with|some a=>f a|none=>b
def Oz(K:af7)(es:List VM)(p:Str×O):Bool:=uV p.1&&afW (q4 p.1 es) (λw=>p6 K 20 w p.2) (afF p.2 && !(dF p.1 ⟨⟨[95,95,110,97,109,101,95,95]⟩⟩)&&oO (bootBuiltins p.1) λw=>EF p.2 w)
def FD(K:af7)(gl:List (Str×O)):Bool:=oO (fC akp K) λo=>oO (xV o) λes=>b8 (Oz K es) gl
theorem acK(n:Str):∀es:List VM,q4 n es=nsFind es.toArray n:=by
 intro es;show _=apP (λn v=>v.isStr n) es.toArray n;unfold apP;rw[←Array.find?_toList];induction es with
 |nil=>rfl
 |cons e r a =>
  show(match Iu n e.key with|true=>Y e.val|false=>q4 n r)=_;rw[anN];have:Iu n e.key=e.key.isStr n:=by
   cases e.key<;>first|rfl|(show dF _ _=_;rw[vB];rfl)
  rw[this];dsimp only;cases e.key.isStr n
  .exact a
  .rfl
theorem IZ(h:(fC akp c.K).bind xV=Y es)(n:Str):q4 n es=c.mg n:=bK h λo f b=>by
 refine oR c.top.g λi a e h1 h2 _ h3=>?_;rw[show i=o from UB (h1.symm.trans (q8 f))]at h2;rw[←h3,acK];obtain⟨_,_,d,_⟩:=o;rw[show d = .dict a e from h2]at b;rw[show es=a.toList from(UB b).symm]
theorem adx(hb:(fC akp c.K).bind xV=Y es){p:Str×O}(h:Oz c.K es p=W):nX c p.1 p.2:=bt h λb h=>by
 have b:=(Ji b).1;cases hw:q4 p.1 es with
 |some w=>rw[hw]at h;exact⟨w,b,.inl ((IZ hb _).symm.trans hw),CB h⟩
 |none =>
  rw[hw]at h;exact bt h λz h=>bt z λf i=>qj h λw e h=>⟨w,b,.inr ⟨λa q=>by rw[q]at f;exact bD f,(IZ hb _).symm.trans hw,by
   rw[c.top.builtins,e];intro q;rw[q]at i;exact absurd i (by decide +kernel)⟩,λV j=>MB h⟩
theorem adz(h:FD c.K gl=W):∀x v,look x gl=Y v->nX c x v:=qj h λo b h=>qj h λes a h=>λx v hx=>by
 rw[mU]at h;have hm:(x,v)∈gl:=by rw[oH]at hx;exact IY hx
 exact adx (es:=es) (by rw[b];exact a) (WO.mp h _ hm)
end
noncomputable def Nm:Data->Option (Array VM)
 | .dict es _=>Y es
 |_=>Sa
def pH(o:Obj):Option (List VM):=(J2 o.cls).bind λc=>(Nm o.data).bind λes=>gd (c == "dict" && Rb o.dict&&kg o.slots.toList) (Y es.toList)
noncomputable def Uv:VD->Option Int
 | .int i _=>Y i
 |_=>Sa
noncomputable def Uw:VD->Option Str
 | .str i _=>Y i
 |_=>Sa
noncomputable def K9:AK->Option Int
 | .int i=>Y i
 | .str _=>Sa
noncomputable def Lb:AK->Option Str
 | .int _=>Sa
 | .str i=>Y i
def NR(K:af7)(e:VM)(p:AK×O):Bool:=oO (Uv e.key) λi=>oO (K9 p.1) λj=>Bf i j&&(e.hash == hashInt i)&&p6 K 20 e.val p.2
def NS(K:af7)(e:VM)(p:AK×O):Bool:=oO (Uw e.key) λi=>oO (Lb p.1) λj=>dF i j&&p6 K 20 e.val p.2
def wm:List (AK×O)->Bool
 | []=>W
 |p::r=>b8 (λq=>bX (pK p.1 q.1)) r&&wm r
def tU(e:af7->VM->AK×O->Bool)(K:af7)(a:Nat)(b:List (AK×O)):Bool:=match fC a K with
 |some o=>(match pH o with|some es=>all2 (e K) es b&&wm b&&bX (a == aic)|none=>UA)
 |none=>UA
section
variable{c:GC}
theorem abB{d:Data}{es:Array VM}(h:Nm d=Y es):∃n,d = .dict es n:=eT (K:=λes=>∃n,d = .dict es n) (by cases d<;>first|exact trivial|exact⟨_,rfl⟩) h
theorem abG{o:Obj}{es:List VM}(h:pH o=Y es):∃ep,o.ExactDict/\o.data = .dict es.toArray ep :=
 bK h λc b h=>bK h λws hw h=>gK h λz h4=>bt z λz i=>bt z λf a=>(abB hw).elim λn e=>⟨n,
  ⟨by rw[Ux b,eq_of_beq f],by cases q:o.dict with|none=>rfl|some _=>rw[q]at a;exact bD a,apE.mp (kY i)⟩,by rw[e,←UB h4]⟩
theorem aiz{v:VD}{i:Int}(h:Uv v=Y i):∃t,v = .int i t:=eT (K:=λi=>∃t,v = .int i t) (by cases v<;>first|exact trivial|exact⟨_,rfl⟩) h
theorem ajd{v:VD}{i:Str}(h:Uw v=Y i):∃t,v = .str i t:=eT (K:=λi=>∃t,v = .str i t) (by cases v<;>first|exact trivial|exact⟨_,rfl⟩) h
theorem ZX{k:AK}{i:Int}(h:K9 k=Y i):k = .int i:=eT (K:=λi=>k = .int i) (by cases k<;>first|exact trivial|exact rfl) h
theorem ZY{k:AK}{i:Str}(h:Lb k=Y i):k = .str i:=eT (K:=λi=>k = .str i) (by cases k<;>first|exact trivial|exact rfl) h
def Km(c:GC){K:Type} [DecidableEq K] (m:KeyKind c.prog c.w K) (g:K->AK) (e:VM) (p:AK×O) (i:K):Prop:=m.is i e.key=W/\e.hash=m.hash i/\pj c e.val p.2/\p.1=g i
def D7(c:GC){K:Type} [DecidableEq K] (m:KeyKind c.prog c.w K) (g:K->AK) (es:List VM) (a:List (AK×O)) (is:List K) (vs:List VD) (xs:List O):Prop :=(∀e∈es,∃k,m.is k e.key=W/\e.hash=m.hash k)/\Pairs m es (is.zip vs)/\iO c vs xs/\is.length=vs.length/\a=(is.map g).zip xs/\(is.zip vs).map (·.1)=is
theorem ents{K:Type} [DecidableEq K] {m:KeyKind c.prog c.w K}{g:K->AK}{l:VM->AK×O->Bool}{es:List VM}:∀{j:List (AK×O)},(∀e∈es,∀p,l e p=W->∃i,Km c m g e p i)->all2 l es j=W->∃is vs xs,D7 c m g es j is vs xs:=by
 induction es with
 |nil=>exactλ_ h=>Lg (P:=λj=>∃is vs xs,D7 c m g [] j is vs xs) h ⟨[],[],[],λe m=>(by exact dw m),.nil,.nil,rfl,rfl,rfl⟩
 |cons e es A =>
  exactλhe h=>Ld (P:=λj=>∃is vs xs,D7 c m g (e::es) j is vs xs) h λp q h1 h2=>RD (A (λe m=>he e (.tail _ m)) h2) λis vs xs a b d z f y =>
   qm (he e (.head _) p h1) λi x B C D=>⟨i::is,e.val::vs,p.2::xs,by
    refine⟨λe' m=>?_,.cons x rfl b,.cons C d,congrArg (· + 1) z,?_,congrArg (i :: ·) y⟩
    .rcases WM.mp m with w|m
     .rw[w];exact⟨i,x,B⟩
     .exact a e' m
    .rw[f];exact congrArg (· :: _) (aqF D rfl)⟩
theorem afx:∀{a:List (AK×O)},wm a=W->(a.map (·.1)).Nodup:=by
 intro a;induction a with
 |nil =>
  exact@λ_=>.nil
 |cons p r b =>
  exact@λh=>by
   have h:(b8 (λq=>bX (pK p.1 q.1)) r&&wm r)=W:=h;rw[VG,mU]at h;rw[WH,VU];refine⟨λm=>?_,b h.2⟩;refine aU (abz.mp m) λq hq e=>?_;have:=WO.mp h.1 q hq;rw[zm,(NT _ _).mpr e.symm]at this;exact bD this
theorem afy{a e:Type}{g:a->e}:∀{l:List a},(l.map g).Nodup->l.Nodup:=by
 intro l;induction l with
 |nil =>
  exact@λ_=>.nil
 |cons x r b =>
  exact@λh=>by
   rw[WH,VU]at h;exact VU.mpr ⟨λm=>h.1 (abz.mpr ⟨x,m,rfl⟩),b h.2⟩
theorem UQ{e f:Type}:∀{a:List e}{b:List f},a.length=b.length->(a.zip b).map (·.1)=a
 | [],[],_=>rfl
 | [],_::_,h=>by cases h
 |_::_,[],h=>by cases h
 |x::a,y::b,h=>congrArg (x :: ·) (UQ (by simpa using h))
theorem abA{b:af7->VM->AK×O->Bool}{K:af7}(h:tU b K a kvs=W):∃o es,fC a K=Y o/\pH o=Y es/\all2 (b K) es kvs=W/\wm kvs=W/\(a == aic)=UA:=by
 unfold tU at h;cases q:fC a K with
 |none=>rw[q]at h;exact bD h
 |some o =>
  rw[q]at h;have h:(match pH o with|some es=>all2 (b K) es kvs&&wm kvs&&bX (a == aic)|none=>UA)=W:=h;cases r:pH o with
  |none=>rw[r]at h;exact bD h
  |some es =>
   rw[r]at h;exact bt h λh h3=>bt h λh1 h2=>⟨o,es,rfl,r,h1,h2,by rw[zm]at h3;exact(amb _).mp h3⟩
theorem Np{K:Type} [DecidableEq K] {m:KeyKind c.prog c.w K}{g:K->AK}{kvs:List (AK×O)}(h:tU ent c.K a kvs=W) (he:∀es,(fC a c.K).bind pH=Y es->∀e∈es,∀p,ent c.K e p=W->∃i,Km c m g e p i) (k:∀(is:List K) (vs:List VD) (xs:List O) (f:Nat),c.base.DictAt m a (is.zip vs) f->iO c vs xs->is.length=vs.length->(a == aic)=UA->gZ c a ((is.map g).zip xs)):gZ c a kvs:=
 nJ (abA h) λo es y b h1 h2 h3=>aU (abG b) λf hx A=>RD (ents (he es (by rw[y];exact b)) h1) λis vs xs e1 e2 j l x z=>by
  have B:is.length=xs.length:=l.trans j.length;have nd:=afx h2;rw[x,UQ (by rw[VO];exact B)]at nd;rw[x];exact k is vs xs f ⟨o,es.toArray,q8 y,hx,A,λe m=>e1 e (by simpa using m),by simpa using e2,by rw[z];exact afy nd⟩ j l h3
theorem abD{kvs:List (AK×O)}(h:tU NR c.K a kvs=W):gZ c a kvs :=
 Np (m:=api c.prog c.w) (g:=.int) h (λ_ _ e _ p h1=>qj h1 λi hi h1=>qj h1 λj b h1=>bt h1 λh1 h3=>bt h1 λh1 h4=>(aiz hi).elim λt f =>
  ⟨i,by rw[f];exact ah6 i,eq_of_beq h4,CB h3,(ZX b).trans (by rw[(Bg _ _).mp h1])⟩) λ_ _ _ _=>.«ints»
theorem abE{kvs:List (AK×O)}(x:(fC a c.K).bind pH=Y es)(y:∀e∈es,∃s t,e.key = .str s t/\e.hash=hashStr c.w s)(h:tU NS c.K a kvs=W):gZ c a kvs :=
 Np (m:=strKind c.prog c.w) (g:=.str) h (λf q e b p h1=>qj h1 λi hi h1=>qj h1 λj l h1=>bt h1 λh1 h3=>by
  have b:e∈es:=by rw[UB (x.symm.trans q)];exact b
  refine oQ (y e b) λs t e1 e2=>?_;rw[e1]at hi;have hi:=UB hi;exact⟨s,by rw[e1];exact ah6 s,e2,CB h3,(ZY l).trans (by rw[←(qV _ _).mp h1,←hi])⟩) λ_ _ _ _=>.«strs»
end
noncomputable def vr(fd:akw):List ajc:=match fd.body with | .stmts b=>b|_=>[]
noncomputable def Qe(fd:akw):Bool:=match fd.body with | .stmts _=>W|_=>UA
def q0(fd:akw)(ps:List Str)(defs:List O):FI:=⟨ps,defs,fd.scope,vr fd⟩
noncomputable def CH:aoF->Bool | .function=>W|_=>UA
noncomputable def CF:acE->Bool | .cell=>W|_=>UA
noncomputable def isLocal:Option acE->Bool|some .local=>W|_=>UA
noncomputable def Qa:Option acE->Bool|some .local=>W|some .cell=>W|_=>UA
def cellsOf:List (Str×acE)->List Str
 | []=>[]
 |(n,k)::r=>match CF k with|true=>n::cellsOf r|false=>cellsOf r
def qZ(K:af7)(a:Nat)(fd:akw)(ps:List Str):Bool :=Qe fd&&VH fd.globals akp&&VH fd.builtins am7&&fd.closure.isEmpty&&codeIn K fd.code fd.qualname&&bX fd.scope.isCoroutine&&bX fd.scope.isGenerator&&CH fd.scope.kind&&aow K (.ref a)&&isFn K (.ref a)&&wo ps
def wD(fd:akw)(ps:List Str):Bool:=b8 (λp:Str×acE=>bX (CF p.2)) fd.scope.names&&b8 (λp=>isLocal (look p fd.scope.names)) ps
def EW(fd:akw)(ps:List Str):Bool:=wo (cellsOf fd.scope.names)&&b8 (λp=>Qa (look p fd.scope.names)) ps
section
variable{c:GC}
theorem P8{k:aoF}(h:CH k=W):k = .function:=bT (by cases k<;>first|exact trivial|exact rfl) h
theorem BU(G:fC a c.K=Y o)(E:o.data = .func fd)(h:qZ c.K a fd ps=W):Ko c a (q0 fd ps defs) o fd:=by
 unfold qZ at h;simp only[VG]at h;refine a9 h λb y=>?_;refine a9 b λe x=>?_;refine a9 e λf D=>?_;refine a9 f λi C=>?_;refine a9 i λj A=>?_;refine a9 j λl z=>?_;refine a9 l λm B=>?_;refine a9 m λp h4=>?_;refine a9 p λw h3=>?_;refine a9 w λh1 h2=>?_;rw[zm,amb]at z A;refine⟨q8 G,E,?_,rfl,VW h2,VW h3,by simpa using h4,B,z,A,?_,D,x,I2 y⟩
 .show fd.body = .stmts (vr fd);unfold Qe at h1;unfold vr;revert h1;cases fd.body<;>intro h1<;>first|exact rfl|exact nomatch h1
 .exact P8 C
theorem aep(h:isLocal o=W):o=Y .local:=bT (by cases o with|none=>exact trivial|some k=>cases k<;>first|exact trivial|exact rfl) h
theorem aeo(h:Qa o=W):o=Y .local∨o=Y .cell:=bT (by cases o with|none=>exact trivial|some k=>cases k<;>first|exact trivial|exact .inl rfl|exact .inr rfl) h
theorem Od(l:fC a c.K=Y o)(j:o.data = .func fd)(h:qZ c.K a fd ps=W)(f:wD fd ps=W)(hb:∀(s:VE) (b:List VD),c.base.StaysIn s.heap->ps.length<=b.length+defs.length->b.length<=ps.length->∃lV,iO c lV (defs.drop (b.length+defs.length - ps.length))/\BindsTo s fd ⟨b,[]⟩ (ps.zip (b++lV))):ph c a (q0 fd ps defs):=by
 unfold wD at f;rw[VG,mU,mU]at f;refine⟨o,fd,BU l j h,.inl ⟨λx hx e=>?_,λp i=>?_,hb⟩⟩
 .have:=WO.mp f.1 x hx;rw[e]at this;exact bD this
 .rw[←oH];exact aep (WO.mp f.2 p i)
theorem Oe(i:fC a c.K=Y o)(f:o.data = .func fd)(h:qZ c.K a fd ps=W)(j:wD fd ps=W)(hb:∀b:List VD,b.length=ps.length->amk fd ⟨b,[]⟩=pure (ps.zip b)):ph c a (q0 fd ps []):=
 Od i f h j λs b _ h1 h2=>⟨[],by rw[amV];exact .nil,by
  have e:b.length=ps.length:=by simp at h1;lia
  rw[af1];exact BindsTo.of_eq (hb b e)⟩
theorem EX:∀(a:List (Str×acE)) (n:Nat) (acc:List (Str×VI)),(alb n a acc).map (·.1)=(cellsOf a).reverse++acc.map (·.1)
 | [],n,acc=>rfl
 |(x,k)::r,n,acc=>by
  show((if (k == .cell)=W then alb (n+1) r ((x,n)::acc) else alb n r acc)).map (·.1)=(match CF k with|true=>x::cellsOf r|false=>cellsOf r).reverse++_;by_cases q:k = .cell
  .subst q;rw[VY (show(ak8 == ak8)=W from rfl),EX];show _=(x::cellsOf r).reverse++_;simp
  .have b:¬((k == ak8)=W):=by simpa using q
   have e:CF k=UA:=by cases k<;>first|rfl|exact absurd rfl q
   rw[VP b,EX,e]
theorem ac4(j:fC a c.K=Y o)(i:o.data = .func fd)(h:qZ c.K a fd ps=W)(e:EW fd ps=W)(hb:∀b:List VD,b.length=ps.length->amk fd ⟨b,[]⟩=pure (ps.zip b)):ph c a (q0 fd ps []):=by
 unfold EW at e;rw[VG,mU]at e;refine⟨o,fd,BU j i h,.inr ⟨rfl,λn=>?_,λp f=>?_,hb⟩⟩
 .rw[EX,aqz,af1];exact I7 (I2 e.1)
 .have:=WO.mp e.2 p f;rw[←oH];rcases aeo this with q|q
  .exact .inl q
  .exact .inr ⟨q,λn=>by refine VF (MW (x:=p) n (.inl (by rw[←oH];exact q)) (acc:=[])) λx hx=>?_;rw[hx];rfl⟩
theorem CQ(h:aow c.K (.ref a)=W):dW c (.ref a):=dW.K h
end
noncomputable def wb:Option (Option VD)->Bool|some Sa=>W|_=>UA
noncomputable def uN(t:String):Option (Option VD)->Bool|some (Y (.builtin s))=>s == t|_=>UA
noncomputable def y3:Option Bool->Bool|some b=>b|none=>UA
noncomputable def Iq:Option Bool->Bool|some b=>bX b|none=>UA
def A5(K:af7)(C:Nat):Bool:=apv K C "" && uN "object.__setattr__" (aga K (.ref C) "__setattr__")&&aot K C&&akJ K C
def Oa(K:af7)(C:Nat)(n:Str):Bool:=wb (aga K (.ref C) n)&&wb (al4 K C n)
def N2(K:af7)(C:Nat):Bool:=uN "BaseException.__getattribute__" (aga K (.ref C) "__getattribute__")&&wb (aga K (.ref C) "__getattr__")&&y3 (mroIn K C (.type "BaseException"))&&akJ K C
def Fp(K:af7)(C:Nat)(n:Str):Bool:=uN "object.__setattr__" (aga K (.ref C) "__setattr__")&&vC K C&&wb (al4 K C n)&&akJ K C
def AJ(K:af7)(t:List (Str×(List Nat×List Nat))):Bool:=b8 (λp=>b8 (λC=>A5 K C&&Oa K C p.1) p.2.1&&b8 (λC=>N2 K C&&wb (aga K (.ref C) p.1)&&Fp K C p.1) p.2.2) t
def Qi(K:af7)(D:Nat):Bool:=apv K D "__class__" && akJ K D&&uN "object.__class__" (aga K (.ref D) "__class__")&&uN "getset_descriptor.__get__" (alC K (.builtin "object.__class__") "__get__")&&y3 (takesIn K (.builtin "object.__class__"))&&y3 (mroIn K D (.type "object"))
def CA(K:af7)(a:List Nat):Bool :=b8 (λD=>isIn K (.ref D) D&&Qi K D&&Iq (kitOne K (.type "NoneType") (.ref D))) a&&b8 (λC=>b8 (λD=>VH C D||kin_not K C D) a) a&&y3 (kitOne K (.type "str") (.type "str"))&&Iq (kitOne K (.type "list") (.type "str"))
section
variable{c:GC}{K:af7}
theorem y2{o:Option (Option VD)}(h:wb o=W):o=Y Sa:=bT (by cases o with|none=>exact trivial|some k=>cases k<;>first|exact trivial|exact rfl) h
theorem wa{o:Option (Option VD)}(h:uN t o=W):o=Y (Y (.builtin t)):=by
 induction o using cO with
 |none=>exact bD h
 |some k =>
  induction k using cO with
  |none=>exact bD h
  |some v=>revert h;cases v<;>intro h<;>first|exact congrArg (λs=>Y (Y (aok s))) (eq_of_beq h)|exact nomatch h
theorem CJ(h:y3 o=W):o=Y W:=by induction o using cO with|none=>cases h|some b=>exact congrArg Y h
theorem P7(h:Iq o=W):o=Y UA:=by
 induction o using cO with
 |none=>exact bD h
 |some b=>cases b<;>first|rfl|exact bD h
theorem M4(h:A5 K C=W):jq K C:=by
 unfold A5 at h;simp only[VG]at h;exact⟨h.1.1.1,wa h.1.1.2,h.1.2,h.2⟩
theorem Ll{t:List (Str×(List Nat×List Nat))}(h:AJ K t=W):(∀n p,look n t=Y p->z8 K n p)/\∀n p,look n t=Y p->Ar K n p:=by
 unfold AJ at h;rw[mU]at h;have a:∀n p,look n t=Y p->(∀C∈p.1,jq K C/\tu K C n)/\∀C∈p.2,(Ac K C/\aga K (.ref C) n=Y Sa)/\Fp K C n=W:=λn p b=>by
  rw[oH]at b;have:=WO.mp h _ (IY b);rw[VG,mU,mU]at this;refine⟨λC f=>?_,λC f=>?_⟩
  .have:=WO.mp this.1 C f;rw[VG]at this;refine a9 this λe i=>?_;unfold Oa at i;rw[VG]at i;exact⟨M4 e,y2 i.1,y2 i.2⟩
  .have:=WO.mp this.2 C f;rw[VG,VG]at this;refine a9 this λj l=>?_;refine a9 j λe i=>?_;unfold N2 at e;simp only[VG]at e;exact⟨⟨⟨wa e.1.1.1,y2 e.1.1.2,CJ e.1.2,e.2⟩,y2 i⟩,l⟩
 refine⟨λn p b=>⟨(a n p b).1,λC f=>((a n p b).2 C f).1⟩,λn p b=>⟨(a n p b).1,λC f=>?_⟩⟩;have:=((a n p b).2 C f).2;unfold Fp at this;simp only[VG]at this;exact⟨wa this.1.1.1,this.1.1.2,y2 this.1.2,this.2⟩
theorem ad0(h:CA K dK=W):Ag K dK:=by
 unfold CA at h;simp only[VG,mU]at h;refine a9 h λa h4=>?_;refine a9 a λe h3=>?_;refine a9 e λh1 h2=>?_;refine⟨λD f=>?_,λC i D f m=>?_,CJ h3,P7 h4⟩
 .have:=WO.mp h1 D f;simp only[VG]at this;refine a9 this λa l=>?_;refine a9 a λj b=>?_;unfold Qi at b;simp only[VG]at b;exact⟨j,⟨b.1.1.1.1.1,b.1.1.1.1.2,wa b.1.1.1.2,wa b.1.1.2,CJ b.1.2,CJ b.2⟩,P7 l⟩
 .have:=WO.mp (WO.mp h2 C i) D f;rw[amx]at this;rcases this with k|k
  .exact absurd (VW k) m
  .exact k
end
noncomputable def y1(a:Nat):Option (Option VD)->Bool|some (Y (.ref b))=>VH b a|_=>UA
noncomputable def yZ:Option VD->Bool|some (.type t)=>t == "function" |_=>UA
section
variable{c:GC}{N:Nat}
theorem Iw{o:Option (Option VD)}(h:y1 a o=W):o=Y (Y (.ref a)):=by
 induction o using cO with
 |none=>exact bD h
 |some k =>
  induction k using cO with
  |none=>exact bD h
  |some v=>revert h;cases v<;>intro h<;>first|exact congrArg (λs=>Y (Y (acm s))) (VW h)|exact nomatch h
theorem It(h:yZ o=W):o=Y (.type "function"):=by
 induction o using cO with
 |none=>exact bD h
 |some v=>revert h;cases v<;>intro h<;>first|exact congrArg (λs=>Y (Value.type s)) (eq_of_beq h)|exact nomatch h
def k7(c:GC)(N:Nat)(a:Nat)(F:Fn):Prop:=dM c N (.ref a) F/\dW c (.ref a)
theorem k7.up(h:k7 c N a F)(k:af0 N M=W):k7 c M a F:=⟨h.1.up (WG k),h.2⟩
theorem k7.le(h:k7 c N a F)(k:N<=M):k7 c M a F:=⟨h.1.up k,h.2⟩
def qH(c:GC)(N:Nat)(l:List (Nat×Fn)):Prop:=∀a F,eJ a l=Y F->k7 c N a F
theorem qH.nil:qH c N []:=λa F h=>by exact bN h
theorem qH.cons(h:k7 c N a F)(t:qH c N l):qH c N ((a,F)::l):=λb G hb =>
 ze hb (λe1 e2=>by rw[e1,←e2];exact h) λhb=>t b G hb
def tB(c:GC)(N:Nat)(n:Str)(l:List (Nat×Fn)):Prop:=∀C F,eJ C l=Y F->∃a,jq c.K C/\qM c.K C n a/\dM c N (.ref a) F/\dW c (.ref a)
theorem tB.nil:tB c N n []:=λa F h=>by exact bN h
def zi(K:af7)(C:Nat)(n:Str)(a:Nat):Bool:=A5 K C&&y1 a (aga K (.ref C) n)&&yZ (amw K (.ref a))
theorem tB.cons(b:zi c.K C n a=W)(h:k7 c N a F)(t:tB c N n l):tB c N n ((C,F)::l):=λD G hb =>
 ze hb (λe1 e2=>by
  unfold zi at b;rw[VG,VG]at b;rw[e1,←e2];exact⟨a,M4 b.1.1,⟨Iw b.1.2,It b.2⟩,h.1,h.2⟩) λhb=>t D G hb
def qK(c:GC)(N:Nat)(l:List (Str×List (Nat×Fn))):Prop:=∀n tab C F,look n l=Y tab->eJ C tab=Y F->∃a,jq c.K C/\qM c.K C n a/\dM c N (.ref a) F/\dW c (.ref a)
theorem qK.nil:qK c N []:=λn t C F h=>by exact bN h
theorem qK.cons{l:List (Str×List (Nat×Fn))}(h:tB c N n tab)(t:qK c N l):qK c N ((n,tab)::l):=λm b C F hm a =>
 IP hm (λe1 e2=>by rw[e1];exact h C F (e2▸a)) λhm=>t m b C F hm a
def qF(c:GC)(N:Nat)(l:List (Nat×List (Str×Fn))):Prop:=∀C t n F,eJ C l=Y t->look n t=Y F->∃a b,alC c.K (.ref C) "__getattribute__" = Y (Y (.builtin "type.__getattribute__"))/\anh c.K C b=W/\ak9 c.K (.ref C) b n=Y (.val (.ref a))/\dM c N (.ref a) F/\dW c (.ref a)
theorem qF.nil:qF c N []:=λn t C F h=>by exact bN h
theorem qF.cons{l:List (Nat×List (Str×Fn))}(h1:alC c.K (.ref C) "__getattribute__" = Y (Y (.builtin "type.__getattribute__")))(h2:anh c.K C mc=W)(h3:ak9 c.K (.ref C) mc n=Y (.val (.ref a)))(h:k7 c N a F)(t:qF c N l):qF c N ((C,[(n,F)])::l):=λD i m G b hm =>
 ze b (λe1 e2=>IP (e2▸hm) (λe f=>by rw[e1,e,←f];exact⟨a,mc,h1,h2,h3,h.1,h.2⟩) λhm=>(by exact bN hm)) λb=>t D i m G b hm
structure vi where
 gl:List (Str×O)
 at_:List (Str×(List Nat×List Nat))
 dK:List Nat
 eA:List Nat
 T:Tb
 it:List (Str×Int)
 hd:List (Nat×(List Nat×List Nat))
noncomputable def vi.cx(s:vi)(nm:List Str)(kd:List (Str×acE))(b:List (Nat×Fn))(e:List (Str×List (Nat×Fn)))(a:List (Nat×List (Str×Fn)))(f:List (Nat×Nat)):Cx :=⟨nm,kd,s.gl,b,e,a,s.at_,s.at_,s.dK,s.eA,s.T,s.it,s.hd,f,W⟩
structure pq (c:GC) (s:vi):Prop where
 gl:FD c.K s.gl=W
 ex:ak9 c.K (.type "Exception") (.type "type") "__init__" = Y (.val (.builtin "Exception.__init__"))
 at_:AJ c.K s.at_=W
 dK:CA c.K s.dK=W
 eA:Ad c s.eA
 T:xv c s.T
 it:Ah s.it
 hd:∀D p,eJ D s.hd=Y p->(∀C∈p.1,pg c C D W)/\∀C∈p.2,pg c C D UA
 quiet:c.quiet=W
theorem Nl(B:pq c s){kd:List (Str×acE)}{fn me cm qA}(e:CH sc.kind=W)(a:kd=sc.names)(b:b8 uV nm=W)(F:qH c N fn)(M:qK c N me)(C:qF c N cm):z9 c N (s.cx nm kd fn me cm qA) sc where
 kind:=P8 e
 kd:=a
 oJ:=λx hx=>by rw[mU]at b;exact WO.mp b x hx
 gl:=adz B.gl
 fn:=F
 me:=M
 cm:=C
 ex:=B.ex
 at_:=(Ll B.at_).1
 st:=(Ll B.at_).2
 dK:=ad0 B.dK
 eA:=B.eA
 T:=B.T
 it:=B.it
 hd:=B.hd
 quiet:=λ_=>B.quiet
end
structure FR where
 i:Nat
 defs:List O
 rest:List Str
 fn:List Nat
 me:List (Str×List (Nat×Nat))
 cm:List (Nat×Str×Nat)
 qA:List (Nat×Nat)
 b:SM
abbrev Tab:=List (Nat×Nat×Fn)
noncomputable def Ba:Data->Option akw
 | .func fd=>Y fd
 |_=>Sa
def pP(K:af7)(a:Nat):akw:=((fC a K).bind λo=>Ba o.data).getD default
def CG(K:af7)(a:Nat):Bool:=uO ((fC a K).bind λo=>Ba o.data)
noncomputable def gT(fd:akw):List Str:=fd.params.args.map (·.arg)
section
variable(K:af7)(s:vi)(T:Tab)
noncomputable def eu(i:Nat):Nat:=(T.getD i (0,0,λ_ _ _ _=>False)).1
noncomputable def tL(i:Nat):Nat:=(T.getD i (0,0,λ_ _ _ _=>False)).2.1
def tF(i:Nat):Fn:=(T.getD i (0,0,λ_ _ _ _=>False)).2.2
def FR.fd(r:FR):akw:=pP K (eu T r.i)
def FR.cx(r:FR):Cx:=s.cx (gT (r.fd K T)++r.rest) (r.fd K T).scope.names (r.fn.map λi=>(eu T i,tF T i)) (r.me.map λp=>(p.1,p.2.map λq=>(q.1,tF T q.2))) (r.cm.map λq=>(q.1,[(q.2.1,tF T q.2.2)])) r.qA
def A7(C:Nat)(n:Str)(a:Nat):Bool:=uN "type.__getattribute__" (alC K (.ref C) "__getattribute__")&&anh K C (.type "type")&&(match ak9 K (.ref C) (.type "type") n with|some (.val (.ref b))=>VH b a|_=>UA)
def FR.ok(r:FR):Bool:=CG K (eu T r.i)&&qZ K (eu T r.i) (r.fd K T) (gT (r.fd K T))&&af0 1 (tL T r.i)
 && (wD (r.fd K T) (gT (r.fd K T))||(r.defs.isEmpty&&EW (r.fd K T) (gT (r.fd K T))))&&b8 uV (gT (r.fd K T)++r.rest)&&af0 (gT (r.fd K T)).length 6
 && b8 (λj=>aca j r.i&&aca (tL T j) (tL T r.i)) r.fn
 && b8 (λp=>b8 (λq=>aca q.2 r.i&&aca (tL T q.2) (tL T r.i)&&zi K q.1 p.1 (eu T q.2)) p.2) r.me
 && b8 (λq=>aca q.2.2 r.i&&aca (tL T q.2.2) (tL T r.i)&&A7 K q.1 q.2.1 (eu T q.2.2)) r.cm
noncomputable def six(a b e f h i:VD)(n:Nat):List VD:=[a,b,e,f,h,i].take n
def FR.MH(a b e f h i:VD)(r:FR):=amk (r.fd K T) ⟨six a b e f h i (gT (r.fd K T)).length,[]⟩
def FR.MG(a b e f h i:VD)(r:FR):Sem (List (Str×VD)):=pure ((gT (r.fd K T)).zip (six a b e f h i (gT (r.fd K T)).length))
def FR.F(r:FR):Fn:=bl (gT (r.fd K T)).length r.defs r.rest.length r.b
end
section
variable{c:GC}{s:vi}{T:Tab}{r:FR}
theorem Ir{K:af7}{a:Nat}(h:CG K a=W):∃o,fC a K=Y o/\o.data = .func (pP K a):=by
 unfold CG at h;unfold pP;cases q:fC a K with
 |none=>rw[q]at h;exact bD h
 |some o =>
  refine⟨o,rfl,?_⟩;rw[q]at h;have h:uO (Ba o.data)=W:=h;show o.data = .func ((Ba o.data).getD default);revert h;cases o.data<;>first|exactλ_=>rfl|exactλh=>bD h
theorem JK{vs:List VD}{n:Nat}(x:vs.length=n)(h:n<=6):∃i j l m p w,vs=six i j l m p w n:=by
 revert vs;refine ka (P:=λn=>∀{vs:List VD},vs.length=n->∃i j l m p w,vs=six i j l m p w n) (ka (ka (ka (ka (ka (ka wg ?_) ?_) ?_) ?_) ?_) ?_) ?_ n (Nat.lt_succ_of_le h)<;>intro vs e<;>apply vK e
 .exactλa b c d e f=>⟨a,b,c,d,e,f,rfl⟩
 .exactλa b c d e=>⟨a,b,c,d,e,.none,rfl⟩
 .exactλa b c d=>⟨a,b,c,d,.none,.none,rfl⟩
 .exactλa b c=>⟨a,b,c,.none,.none,.none,rfl⟩
 .exactλa b=>⟨a,b,.none,.none,.none,.none,rfl⟩
 .exactλa=>⟨a,.none,.none,.none,.none,.none,rfl⟩
 .exact⟨.none,.none,.none,.none,.none,.none,rfl⟩
def Tk(c:GC)(T:Tab)(j:Nat):Prop:=k7 c (tL T j) (eu T j) (tF T j)
theorem xJ{a b:Nat}(h:aca a b=W):a < b:=Nat.lt_of_succ_le (WG h)
theorem ib{a:Type}{p:a->Bool}{l:List a}(h:b8 p l=W):∀x∈l,p x=W:=by rw[mU]at h;exact WO.mp h
theorem Of{N:Nat}{l:List Nat}(h:∀j∈l,Tk c T j/\tL T j<=N):qH c N (l.map λi=>(eu T i,tF T i)):=by
 induction l with
 |nil=>exact .nil
 |cons j l a=>exact .cons ((h j (.head _)).1.le (h j (.head _)).2) (a λj m=>h j (.tail _ m))
theorem afj{l:List (Nat×Nat)}(h:∀q∈l,(Tk c T q.2/\tL T q.2<=N)/\zi c.K q.1 n (eu T q.2)=W):tB c N n (l.map λq=>(q.1,tF T q.2)):=by
 induction l with
 |nil=>exact .nil
 |cons q l a=>exact .cons (h q (.head _)).2 ((h q (.head _)).1.1.le (h q (.head _)).1.2) (a λj m=>h j (.tail _ m))
theorem afn{N:Nat}{l:List (Str×List (Nat×Nat))}(h:∀p∈l,∀q∈p.2,(Tk c T q.2/\tL T q.2<=N)/\zi c.K q.1 p.1 (eu T q.2)=W):qK c N (l.map λp=>(p.1,p.2.map λq=>(q.1,tF T q.2))):=by
 induction l with
 |nil=>exact .nil
 |cons p l a=>exact .cons (afj (h p (.head _))) (a λj m=>h j (.tail _ m))
theorem E0{K:af7}{C a:Nat}{n:Str}(h:A7 K C n a=W):alC K (.ref C) "__getattribute__" = Y (Y (.builtin "type.__getattribute__"))/\anh K C (.type "type")=W/\ak9 K (.ref C) (.type "type") n=Y (.val (.ref a)):=by
 unfold A7 at h;rw[VG,VG]at h;refine⟨wa h.1.1,h.1.2,?_⟩;have h:=h.2;cases q:ak9 K (.ref C) (.type "type") n with
 |none=>rw[q]at h;exact bD h
 |some w =>
  rw[q]at h;cases w<;>first|exact bD h|(rename_i v;cases v<;>first|exact bD h|(rw[VW h]))
theorem abf{N:Nat}:∀{l:List (Nat×Str×Nat)},(∀q∈l,(Tk c T q.2.2/\tL T q.2.2<=N)/\A7 c.K q.1 q.2.1 (eu T q.2.2)=W)->qF c N (l.map λq=>(q.1,[(q.2.1,tF T q.2.2)])):=by
 intro l;induction l with
 |nil=>exactλ_=>.nil
 |cons q l a=>exactλh=>.cons (E0 (h q (.head _)).2).1 (E0 (h q (.head _)).2).2.1 (E0 (h q (.head _)).2).2.2 ((h q (.head _)).1.1.le (h q (.head _)).1.2) (a λj m=>h j (.tail _ m))
theorem QP{b:Type}{v:b}:∀{l:List (Nat×b)},eJ a l=Y v->(a,v)∈l:=by
 intro l;induction l with
 |nil =>
  exact@λh=>by exact bN h
 |cons f r e =>
  obtain⟨x,w⟩:=f;exact@λh=>ze h (λe1 e2=>by rw[e1,e2];exact .head _) λh=>.tail _ (e h)
theorem ahd(B:pq c s)(h:r.ok c.K T=W)(hc:comp 60 (r.cx c.K s T) (vr (r.fd c.K T))=Y r.b)(hb:(∀C D E G H I,r.MH c.K T C D E G H I=r.MG c.K T C D E G H I)/\r.defs=[]∨ph c (eu T r.i) (q0 (r.fd c.K T) (gT (r.fd c.K T)) r.defs))(Q:∀j,j < r.i->Tk c T j):dM c (tL T r.i) (.ref (eu T r.i)) (r.F c.K T)/\dW c (.ref (eu T r.i)):=by
 unfold FR.ok at h;simp only[VG]at h;refine a9 h λf h9=>?_;refine a9 f λl h8=>?_;refine a9 l λw h7=>?_;refine a9 w λx Z=>?_;refine a9 x λy X=>?_;refine a9 y λz h4=>?_;refine a9 z λA h3=>?_;refine a9 A λh1 h2=>?_;refine aU (Ir h1) λo M L=>?_;have kp:=CQ (BU M L h2 (defs:=[])).Qu;have hF:ph c (eu T r.i) (q0 (r.fd c.K T) (gT (r.fd c.K T)) r.defs):=by
  rcases hb with ⟨hb,e⟩|hb
  .rw[e];have hb:∀a:List VD,a.length=(gT (r.fd c.K T)).length->amk (r.fd c.K T) ⟨a,[]⟩=pure ((gT (r.fd c.K T)).zip a):=λa hv=>by
    obtain⟨C,D,E,G,H,I,e⟩:=JK hv (WG Z);rw[e];exact hb C D E G H I
   rw[amx,VG]at h4;rcases h4 with h4|h4
   .exact Oe M L h2 h4 hb
   .exact ac4 M L h2 h4.2 hb
  .exact hb
 obtain⟨N,S⟩: ∃N,tL T r.i=N+1:=⟨tL T r.i - 1,(ale (WG h3)).symm⟩;have lt:∀{j},aca (tL T j) (tL T r.i)=W->tL T j<=N:=λh=>alv (by rw[←Nat.add_one,←S];exact xJ h);have hk:CH (r.fd c.K T).scope.kind=W:=by
  unfold qZ at h2;simp only[VG]at h2;exact h2.1.1.1.2
 rw[S];refine⟨Oo (rest:=r.rest) hF (Nl (sc:=(r.fd c.K T).scope) B hk rfl X (Of λj m=>?_) (afn λp m q n=>?_) (abf λq m=>?_)) rfl rfl rfl hc,kp⟩
 .have:=ib h7 j m;rw[VG]at this;exact⟨Q j (xJ this.1),lt this.2⟩
 .have:=ib (ib h8 p m) q n;rw[VG,VG]at this;exact⟨⟨Q _ (xJ this.1.1),lt this.1.2⟩,this.2⟩
 .have:=ib h9 q m;rw[VG,VG]at this;exact⟨⟨Q _ (xJ this.1.1),lt this.1.2⟩,this.2⟩
end
theorem nv{n a:Nat}{P:Prop}(h1:n+1<=a+1)(h2:a<=n+1)(b:a=n+1->P)(e:a=n->P):P:=(Nat.le_or_eq_of_le_succ h2).elim (λh=>e (anL h (air h1))) b
section
variable(K:af7)(T:Tab)(r:FR)
noncomputable def AN(fd:akw)(vs:List VD): { k:Option (Array VD)->Sem (List (Str×VD)) // amk fd ⟨vs,[]⟩=seqItems? fd.defaults >>= k}:=⟨_,rfl⟩
noncomputable def SO:VD->Option Nat
 | .ref a=>Y a
 |_=>Sa
def FR.lV:Option (List VD):=(SO (r.fd K T).defaults).bind λa=>(fC a K).bind JU
noncomputable def FR.dv:VD:=((r.lV K T).getD []).headD .none
noncomputable def FR.d:O:=r.defs.headD .none
def FR.pn:Nat:=(gT (r.fd K T)).length - 1
def FR.d1:Bool:=oO (r.lV K T) (λl=>VH l.length 1)&&VH r.defs.length 1&&p6 K 20 (r.dv K T) r.d&&af0 1 (gT (r.fd K T)).length&&wD (r.fd K T) (gT (r.fd K T))
def FR.b1(a b e f h i:VD):=[(AN (r.fd K T) (six a b e f h i (r.pn K T+1))).1 (Y #[r.dv K T]),(AN (r.fd K T) (six a b e f h i (r.pn K T))).1 (Y #[r.dv K T])]
def FR.b2(a b e f h i:VD):List (Sem (List (Str×VD))):=[pure ((gT (r.fd K T)).zip (six a b e f h i (r.pn K T+1))),pure ((gT (r.fd K T)).zip (six a b e f h i (r.pn K T)++[r.dv K T]))]
end
theorem Rw{a:Type}{l:List a}{d:a}(h:VH l.length 1=W):l=[l.headD d]:=by
 cases l with
 |nil=>exact bD h
 |cons x l=>cases l with
  |nil=>rfl
  |cons y l=>exact bD h
theorem ag6{v:VD}(h:SO v=Y a):v = .ref a:=eT (K:=λa=>v = .ref a) (by cases v<;>first|exact trivial|exact rfl) h
theorem ac5{c:GC}{T:Tab}{r:FR}(h:r.ok c.K T=W)(b:r.d1 c.K T=W)(hb:∀j l m p w x,r.b1 c.K T j l m p w x=r.b2 c.K T j l m p w x):ph c (eu T r.i) (q0 (r.fd c.K T) (gT (r.fd c.K T)) r.defs):=by
 unfold FR.ok at h;refine bt h λh _=>bt h λh _=>bt h λh _=>bt h λh C=>bt h λh _=>bt h λh _=>bt h λh _=>bt h λh1 h2=>?_;refine bt b λb X=>bt b λb S=>bt b λb hi=>bt b λhv Q=>qj hv λdl f z=>bK f λt I f=>bK f λo H A=>(Ul A).elim λn N=>aU (Ir h1) λof G E=>?_;have D:dl=[r.dv c.K T]:=by
  have e:=Rw (d:=.none) z;unfold FR.dv;rw[show r.lV c.K T=Y dl by unfold FR.lV;rw[I,ans,H];exact A];exact e
 have M:r.defs=[r.d]:=Rw Q;have en:(gT (r.fd c.K T)).length=r.pn c.K T+1:=(ale (WG S)).symm;have C:r.pn c.K T+1<=6:=by rw[←en];exact WG C
 rw[M];refine Od G E h2 X λs L st B a=>?_;rw[en]at B a;have Z:s.heap.get? t=Y o:=st _ _ (q8 H);have y:∀{vs:List VD}{bs:List (Str×VD)},(AN (r.fd c.K T) vs).1 (Y #[r.dv c.K T])=pure bs->BindsTo s (r.fd c.K T) ⟨vs,[]⟩ bs:=λe=>BindsTo.of_defaults (ag6 I) Z (by rw[N,D]) (AN _ _).2 e;rw[en];refine nv B a (λe=>?_) λe=>?_
 .obtain⟨j,l,m,p,w,x,e'⟩:=JK e C;refine⟨[],by rw[e,show r.pn c.K T+1+[r.d].length - (r.pn c.K T+1)=1 from anK ..];exact .nil,?_⟩;rw[af1,e'];exact y (akt (hb j l m p w x)).1
 .obtain⟨j,l,m,p,w,x,e'⟩:=JK e (ao7 C);refine⟨[r.dv c.K T],by rw[e,show r.pn c.K T+[r.d].length - (r.pn c.K T+1)=0 from aqG _];exact .cons (CB hi) .nil,?_⟩;rw[e'];exact y (akt (akt (hb j l m p w x)).2).1
end
section
open PySem PySem.W PyProof.Rows
noncomputable abbrev qp:akH:=amO
theorem ags:amO=qp:=rfl
noncomputable abbrev pw:akH:=qp
noncomputable def Jc{a:Type}:List a->Nat->a->a
 | [],_,d=>d
 |x::_,0,_=>x
 |_::l,n+1,d=>Jc l n d
def bR(i:Nat):ajc:=Jc pw.main.body i (.Pass ⟨0,0,0,0⟩)
def mem(i j:Nat):ajc:=match bR i with
 | .ClassDef _ _ _ b _ _ _ _ _ _ _=>Jc b j (.Pass ⟨0,0,0,0⟩)
 |s=>s
noncomputable def fdU(n q:Str)(s:ajc):akw:=match s with
 | .FunctionDef _ a b _ _ _ sc _ _ _=>{ name:=n,qualname:=q,params:=a,body:=.stmts b,scope:=sc,globals:=0,closure:=[],defaults:=.none,kwdefaults:=.none}
 |_=>default
noncomputable def fdF(n q:Str)(s:ajc)(dv f e:VD):akw:=match s with
 | .FunctionDef _ a b _ _ _ sc _ _ _=>{ name:=n,qualname:=q,params:=a,body:=.stmts b,scope:=sc,globals:=3,closure:=[],defaults:=dv,kwdefaults:=.none,pyModule:=f,code:=e}
 |_=>default
noncomputable def nl:Nat->BT:=λ_=>.nil
noncomputable def nd(i:Nat)(o:Obj)(l r:Nat->BT):Nat->BT:=λn=>match aca i n with
 |true=>.node o (l n) (r n)
 |false=>.nil
noncomputable def oF:Life:={}
noncomputable def lU:aof:={}
noncomputable def jR(i n:Nat):List ajc:=(pw.main.body.drop i).take n
noncomputable def k(P:abI)(s:Str)(t:Nat)(v:VD):VM:=⟨acC P s,.str s t,v⟩
def pX:=U 0x5f5f656d616e5f5f
def m3:=U 0x5f5f636f645f5f
def je:=U 0x6469
def adN:=U 0x65636e6174736e697369
def adO:=U 0x6e656c
def adP:=U 0x65746172656d756e65
def jG:=U 0x746e69
def adQ:=U 0x65676e6172
def adR:=U 0x727473
def adS:=U 0x656c707574
def ej:=U 0x65707974
def adT:=U 0x6e6f69747065637845
def yA:=U 0x6e65706f
def FL:=U 0x5f5f6e69616d5f5f
def FN:=U 0x79702e7475632f6d69616c632f
def uq:=U 0x6c6c61775f
def fD:=U 0x323369
def oh:=U 0x343669
def yB:=U 0x666572636e7566
def yC:=U 0x6665726e7265747865
def yD:=U 0x323366
def yE:=U 0x343666
def vU:=U 0x38323176
def gc:=U 0x636e7566
def yF:=U 0x6e7265747865
def kP:=U 0x656d616e
def ik:=U 0x646e696b
def rh:=U 0x666f5f646e696b
def rj:=U 0x656d616e5f7466656c5f7369
def rk:=U 0x666f5f70616568
def gB:=U 0x656e6f6e
def eM:=U 0x6b636f6c62
def fF:=U 0x6c6562616c
def dg:=U 0x736c6562616c
def mZ:=U 0x7463657269646e69
def fg:=U 0x73646e696b
def fR:=U 0x6c61636f6c
def gC:=U 0x6c61626f6c67
def dh:=U 0x656c626174
def fS:=U 0x79726f6d656d
def vV:=U 0x646e696b666572
def vW:=U 0x74696e695f79726f6d656d
def il:=U 0x61746164
def rm:=U 0x736569726f6d656d5f6f7774
def rn:=U 0x74696e695f656c626174
def iC:=U 0x6d656c65
def oj:=U 0x79706f635f656c626174
def om:=U 0x65646f63
def OK:=U 0x747361656c
def B9:=U 0x74736f6d
def FO:=U 0x736d61726170
def FP:=U 0x73746c75736572
def ro:=U 0x646e696b5f7265626d756e
def OL:=U 0x7365646f632e65726f636d736177
def rq:=U 0x666f5f6d726f66
def OM:=U 0x73746574636f
def rA:=U 0x6c61727574616e
def ip:=U 0x5f5f656c75646f6d5f5f
def rB:=U 0x73746c7561662e65726f636d736177
def oo:=U 0x5f5f656d616e6c6175715f5f
def l8:=U 0x746c7561466d736157
def iq:=U 0x5f5f6f6e656e696c74737269665f5f
def cM:=U 0x5f5f74696e695f5f
def ir:=U 0x5f5f736574756269727474615f6369746174735f5f
def cU:=U 0x666c6573
def iR:=U 0x796877
def FQ:=U 0x5f5f74696e695f5f2e746c7561466d736157
def jC:=U 0x5f5f6665726b6165775f5f
def rC:=U 0x74786554646142
def cZ:=U 0x776f72
def df:=U 0x6e6d756c6f63
def FT:=U 0x5f5f74696e695f5f2e74786554646142
def rD:=U 0x74754f7466654c
def cg:=U 0x7461
def FU:=U 0x5f5f74696e695f5f2e74754f7466654c
def rE:=U 0x726578656c2e65726f636d736177
def yG:=U 0x6e656b6f54
def eC:=U 0x74726f73
def b9:=U 0x74786574
def lA:=U 0x65756c6176
def FV:=U 0x5f5f74696e695f5f2e6e656b6f54
def kQ:=U 0x5f5f746369645f5f
def yH:=U 0x68636e617242
def j0:=U 0x64616568
def bY:=U 0x736d657469
def FX:=U 0x5f5f74696e695f5f2e68636e617242
def ur:=U 0x7473726966
def FY:=U 0x646165682e68636e617242
def l9:=U 0x6d657469
def iD:=U 0x68636e6172625f7369
def jD:=U 0x6e656b6f745f7369
def yI:=U 0x736d657449
def mf:=U 0x656e6f645f7369
def mh:=U 0x65726568
def pY:=U 0x6c696166
def iF:=U 0x656b6174
def yJ:=U 0x6e656b6f745f656b6174
def yK:=U 0x68636e6172625f656b6174
def rF:=U 0x64695f656b6174
def yL:=U 0x64726f775f656b6174
def mj:=U 0x74736572
def m5:=U 0x656e6f645f746e6177
def FZ:=U 0x5f5f74696e695f5f2e736d657449
def F1:=U 0x656e6f645f73692e736d657449
def F4:=U 0x657265682e736d657449
def F5:=U 0x68636e6172625f73692e736d657449
def F6:=U 0x6e656b6f745f73692e736d657449
def aq:=U 0x6e656b6f742064657463657078656e75
def F7:=U 0x6c6961662e736d657449
def F8:=U 0x656b61742e736d657449
def F9:=U 0x6e656b6f745f656b61742e736d657449
def Ga:=U 0x68636e6172625f656b61742e736d657449
def Gb:=U 0x64695f656b61742e736d657449
def Gd:=U 0x64726f775f656b61742e736d657449
def j4:=U 0x646e756f66
def Ge:=U 0x747365722e736d657449
def Gf:=U 0x656e6f645f746e61772e736d657449
def ON:=U 0x68636e617262
def rG:=U 0x666f5f6b6c6177
def ml:=U 0x65736162
def Gg:=U 0x737469676964
def OO:=U 0x74696769645f736177
def OP:=U 0x6e676973
def rH:=U 0x666f5f656c6f6877
def fG:=U 0x6e656b6f74
def OQ:=U 0x666c6168
def rI:=U 0x666f5f746e69
def rJ:=U 0x666f5f323375
def Gh:=U 0x7a7165
def Gi:=U 0x7165
def Gj:=U 0x656e
def Gk:=U 0x735f746c
def Gl:=U 0x755f746c
def Gm:=U 0x735f7467
def Gn:=U 0x755f7467
def Gp:=U 0x735f656c
def Gq:=U 0x755f656c
def Gs:=U 0x735f6567
def Gu:=U 0x755f6567
def Gv:=U 0x7a6c63
def Gw:=U 0x7a7463
def Gx:=U 0x746e63706f70
def Gy:=U 0x646461
def Gz:=U 0x627573
def GA:=U 0x6c756d
def GB:=U 0x735f766964
def GD:=U 0x755f766964
def GF:=U 0x735f6d6572
def GG:=U 0x755f6d6572
def GH:=U 0x646e61
def GI:=U 0x726f
def GJ:=U 0x726f78
def GK:=U 0x6c6873
def GL:=U 0x735f726873
def GN:=U 0x755f726873
def GO:=U 0x6c746f72
def GP:=U 0x72746f72
def Ca:=U 0x2e323369
def Cb:=U 0x2e343669
def rK:=U 0x7465672e6c61636f6c
def oq:=U 0x74736e6f632e323369
def GQ:=U 0x7465732e6c61636f6c
def GR:=U 0x6565742e6c61636f6c
def Cc:=U 0x74736e6f632e343669
def j5:=U 0x706f6f6c
def eG:=U 0x6669
def gp:=U 0x65736c65
def cA:=U 0x646e65
def vX:=U 0x7262
def Cd:=U 0x66695f7262
def Ce:=U 0x656c6261745f7262
def OR:=U 0x6e7275746572
def uv:=U 0x6c6c6163
def uw:=U 0x7463657269646e695f6c6c6163
def OS:=U 0x706f7264
def gD:=U 0x7463656c6573
def GS:=U 0x656c626168636165726e75
def fH:=U 0x706f6e
def GU:=U 0x6c6c61635f6e7275746572
def GV:=U 0x7463657269646e695f6c6c61635f6e7275746572
def Cf:=U 0x7465672e6c61626f6c67
def Cg:=U 0x7465732e6c61626f6c67
def Ci:=U 0x7465672e656c626174
def GW:=U 0x7465732e656c626174
def ux:=U 0x64616f6c2e323369
def GX:=U 0x64616f6c2e343669
def GY:=U 0x735f3864616f6c2e323369
def Cj:=U 0x755f3864616f6c2e323369
def GZ:=U 0x735f363164616f6c2e323369
def G6:=U 0x755f363164616f6c2e323369
def G7:=U 0x735f3864616f6c2e343669
def G8:=U 0x755f3864616f6c2e343669
def G9:=U 0x735f363164616f6c2e343669
def Ha:=U 0x755f363164616f6c2e343669
def Hb:=U 0x735f323364616f6c2e343669
def Hc:=U 0x755f323364616f6c2e343669
def He:=U 0x65726f74732e323369
def Ck:=U 0x65726f74732e343669
def Hf:=U 0x3865726f74732e323369
def Hg:=U 0x363165726f74732e323369
def Hh:=U 0x3865726f74732e343669
def Hi:=U 0x363165726f74732e343669
def Hj:=U 0x323365726f74732e343669
def Cm:=U 0x657a69732e79726f6d656d
def Hk:=U 0x776f72672e79726f6d656d
def Hl:=U 0x3436695f706172772e323369
def Hm:=U 0x735f3233695f646e657478652e343669
def Hn:=U 0x755f3233695f646e657478652e343669
def Ho:=U 0x735f38646e657478652e323369
def Hp:=U 0x735f3631646e657478652e323369
def Hq:=U 0x735f38646e657478652e343669
def Hr:=U 0x735f3631646e657478652e343669
def Ht:=U 0x735f3233646e657478652e343669
def uy:=U 0x6c6c756e2e666572
def Hu:=U 0x6c6c756e5f73692e666572
def Hv:=U 0x636e75662e666572
def Cn:=U 0x74696e692e79726f6d656d
def Cq:=U 0x706f72642e61746164
def Cr:=U 0x79706f632e79726f6d656d
def Hw:=U 0x6c6c69662e79726f6d656d
def pZ:=U 0x74696e692e656c626174
def Cs:=U 0x706f72642e6d656c65
def uz:=U 0x79706f632e656c626174
def Hx:=U 0x776f72672e656c626174
def Ct:=U 0x657a69732e656c626174
def Hy:=U 0x6c6c69662e656c626174
def OT:=U 0x786966657270
def yM:=U 0x7364726f77
def rL:=U 0x666f5f65646f63
def Hz:=U 0x73656d616e706f2e65726f636d736177
def gF:=U 0x64726f77
def rM:=U 0x64726f775f7466656c5f7369
def gq:=U 0x6d61726170
def fh:=U 0x746c75736572
def iG:=U 0x6e656874
def yN:=U 0x74657366666f
def HA:=U 0x74756d
def HB:=U 0x74726f706d69
def HC:=U 0x74726f707865
def HD:=U 0x7472617473
def HE:=U 0x656c75646f6d
def HF:=U 0x6572616c636564
def rN:=U 0x657375666572
def rO:=U 0x79646f62747865742e65726f636d736177
def rP:=U 0x666f5f64616568
def rQ:=U 0x64726f775f726568746f5f7369
def rR:=U 0x646e696b5f65756c6176
def kR:=U 0x6e695f73646e696b
def rS:=U 0x7865646e695f736168
def rU:=U 0x74615f7865646e69
def rV:=U 0x74615f64726f77
def rW:=U 0x666f5f746e756f63
def uA:=U 0x7265626d756e
def OU:=U 0x746e656e6f707865
def rX:=U 0x666f5f746e656e6f707865
def yO:=U 0x6c6562614c
def HG:=U 0x5f5f74696e695f5f2e6c6562614c
def p4:=U 0x65736c655f736168
def yP:=U 0x6e75526d657449
def p5:=U 0x6465646c6f665f7369
def HH:=U 0x5f5f74696e695f5f2e6e75526d657449
def rY:=U 0x6b7361745f6e7572
def yQ:=U 0x72656461655279646f42
def rZ:=U 0x64616572
def uB:=U 0x70657473
def jE:=U 0x6e7572
def m6:=U 0x6b636f6c625f6e65706f
def ou:=U 0x6b636f6c625f65736f6c63
def r5:=U 0x6e69616c70
def uC:=U 0x646e655f6e69616c70
def r7:=U 0x6465646c6f66
def uD:=U 0x66695f6465646c6f66
def m7:=U 0x646c6f745f6c6562616c
def m8:=U 0x646e696b5f6b636f6c62
def lB:=U 0x646c6f745f65707974
def kS:=U 0x6e6f697463757274736e69
def eH:=U 0x7865646e69
def ow:=U 0x72656e6e69
def uE:=U 0x73656c6261745f666f
def m9:=U 0x6772616d656d
def uF:=U 0x746e6174736e6f63
def dR:=U 0x736563617073
def fJ:=U 0x7364695f6c61636f6c
def HI:=U 0x5f5f74696e695f5f2e72656461655279646f42
def HJ:=U 0x646165722e72656461655279646f42
def OV:=U 0x74756f6261
def HK:=U 0x706574732e72656461655279646f42
def HL:=U 0x6e75722e72656461655279646f42
def HM:=U 0x6b636f6c625f6e65706f2e72656461655279646f42
def HN:=U 0x6b636f6c625f65736f6c632e72656461655279646f42
def HO:=U 0x6e69616c702e72656461655279646f42
def HP:=U 0x646e655f6e69616c702e72656461655279646f42
def HQ:=U 0x6465646c6f662e72656461655279646f42
def HR:=U 0x6563616c70
def vY:=U 0x646e69686562
def OX:=U 0x726574616c
def HT:=U 0x66695f6465646c6f662e72656461655279646f42
def HU:=U 0x646c6f745f6c6562616c2e72656461655279646f42
def OY:=U 0x736d617261705f736168
def OZ:=U 0x73746c757365725f736168
def HV:=U 0x646e696b5f6b636f6c622e72656461655279646f42
def iS:=U 0x736469
def HW:=U 0x646c6f745f657079742e72656461655279646f42
def Cu:=U 0x6d726f66
def HX:=U 0x6e6f697463757274736e692e72656461655279646f42
def yR:=U 0x6563617073
def HY:=U 0x7865646e692e72656461655279646f42
def HZ:=U 0x72656e6e692e72656461655279646f42
def H3:=U 0x6c61636f6c2e72656461655279646f42
def H4:=U 0x6c6562616c2e72656461655279646f42
def H5:=U 0x73656c6261745f666f2e72656461655279646f42
def O0:=U 0x6e67696c61
def H6:=U 0x6772616d656d2e72656461655279646f42
def H7:=U 0x746e6174736e6f632e72656461655279646f42
def O1:=U 0x646c6f745f7369
def H8:=U 0x7463656c65732e72656461655279646f42
def fK:=U 0x79646f62
def iw:=U 0x736b736174
def r8:=U 0x79646f625f64616572
def O2:=U 0x6e6f6974636e7566
def O3:=U 0x746e656d676573206d656c65
def O4:=U 0x746e656d6765732061746164
def Cv:=U 0x7365636170732e65726f636d736177
def r9:=U 0x6e695f65727574616e676973
def yS:=U 0x736563617053
def yT:=U 0x646e6962
def sa:=U 0x7865646e695f646e696b
def uG:=U 0x6573755f65707974
def yU:=U 0x796e616d5f736d61726170
def H9:=U 0x5f5f74696e695f5f2e736563617053
def Ia:=U 0x646e69622e736563617053
def Ib:=U 0x7865646e692e736563617053
def O5:=U 0x726568746f
def Ic:=U 0x7865646e695f646e696b2e736563617053
def O6:=U 0x6b6c6177
def O7:=U 0x646c6f74
def Ie:=U 0x6573755f657079742e736563617053
def Ig:=U 0x796e616d5f736d617261702e736563617053
def mn:=U 0x796e616d
def sj:=U 0x736b636f6c625f77616c5f
def O8:=U 0x31305f353631306d6e5f77616c
def so:=U 0x7364726f775f77616c5f
def sv:=U 0x73656369646e695f77616c5f
def sx:=U 0x737265626d756e5f77616c5f
def sy:=U 0x73646e696b5f77616c5f
def sA:=U 0x7374786574
def uH:=U 0x746e756f63
def sD:=U 0x736d6574695f77616c5f
def Ih:=U 0x73706f6e
def Cw:=U 0x6e6968746977
def sF:=U 0x646563616c705f77616c5f
def sG:=U 0x74616c665f77616c5f
def O9:=U 0x746c756166
def sH:=U 0x646573756665725f77616c5f
def uI:=U 0x77616c
def Pa:=U 0x5954504d45
def Pb:=U 0x53454d414e5f444e494b
def Pc:=U 0x53454d414e5f5446454c
def Pd:=U 0x53454d414e5f50414548
def Pe:=U 0x4649
def Pf:=U 0x45534c45
def Pg:=U 0x444e45
def Ph:=U 0x5443454c4553
def Pj:=U 0x53444e494b5f5443454c4553
def Pk:=U 0x5344414f4c
def Pl:=U 0x5345524f5453
def Pm:=U 0x534d524f46
def Pn:=U 0x535245424d554e
def Po:=U 0x535449474944
def Cy:=U 0x39383736353433323130
def Pp:=U 0x5354494749445f584548
def yV:=U 0x46454443424166656463626139383736353433323130
def Pr:=U 0x726578656c5f68636e6172625f7369
def Pt:=U 0x726578656c5f6e656b6f745f7369
def Pu:=U 0x53574f52
def Pw:=U 0x53454d414e
def Px:=U 0x544e554f435f54534f4d
def Py:=U 0x5344524f575f4b434f4c42
def Pz:=U 0x5344524f575f524548544f
def PA:=U 0x4d524f465f464f5f4543415053
def PB:=U 0x79646f62747865745f6e695f73646e696b
def PC:=U 0x534543415053
def PD:=U 0x53454d414e5f4543415053
def PE:=U 0x7365636170735f6e695f73646e696b
def PF:=U 0x64646f5f77616c5f
def PG:=U 0x656e6f6e5f77616c5f
def eN:=U 0x726f74617265706f206e776f6e6b6e75
def PH:=U 0x74616572675f77616c5f
def iU:=U 0x65676e617220666f2074756f20746e6174736e6f6320323369
def PI:=U 0x65676e61725f77616c5f
def jF:=U 0x65676e617220666f2074756f20746e6174736e6f63
def PJ:=U 0x6f77745f77616c5f
def ng:=U 0x6f777420666f207265776f702061206562207473756d20746e656d6e67696c61
def PK:=U 0x646e65625f77616c5f
def mq:=U 0x6c6562616c20676e69686374616d73696d
def Ot(P:abI):List VM:=[k P m3 166 .none,k P (U 0x5f5f6567616b6361705f5f) 167 .none,k P (U 0x5f5f726564616f6c5f5f) 168 (.builtin "__main__.__loader__#opaque"),k P (U 0x5f5f636570735f5f) 169 .none,k P (U 0x5f5f736e6f697461746f6e6e615f5f) 170 (.ref 6),k P (U 0x5f5f736e69746c6975625f5f) 171 (.ref 4),k P (U 0x5f5f656c69665f5f) 173 (.str FN 172),k P (U 0x5f5f6465686361635f5f) 174 .none,k P uq 193 (.ref 21),k P (U 0x323349) 198 (.int (-1) 197),k P (U 0x343649) 201 (.int (-2) 200),k P (U 0x464552434e5546) 204 (.int (-16) 203),k P (U 0x4645524e5245545845) 207 (.int (-17) 206),k P Pa 210 (.int (-64) 209),k P Pb 219 (.ref 22),k P Pc 232 (.ref 23),k P Pd 237 (.ref 24),k P rh 245 (.ref 31),k P rj 252 (.ref 38),k P rk 260 (.ref 45),k P (U 0x454c424148434145524e55) 264 (.int 0 263),k P (U 0x504f4e) 266 (.int 1 265),k P (U 0x4b434f4c42) 268 (.int 2 267),k P (U 0x504f4f4c) 270 (.int 3 269),k P Pe 272 (.int 4 271),k P Pf 274 (.int 5 273),k P Pg 276 (.int 11 275),k P (U 0x5242) 278 (.int 12 277),k P (U 0x46495f5242) 280 (.int 13 279),k P (U 0x454c4241545f5242) 282 (.int 14 281),k P (U 0x4e5255544552) 284 (.int 15 283),k P (U 0x4c4c4143) 286 (.int 16 285),k P (U 0x5443455249444e495f4c4c4143) 288 (.int 17 287),k P (U 0x4c4c41435f4e5255544552) 290 (.int 18 289),k P (U 0x5443455249444e495f4c4c41435f4e5255544552) 292 (.int 19 291),k P (U 0x504f5244) 294 (.int 26 293),k P Ph 296 (.int 27 295),k P Pj 298 (.int 28 297),k P (U 0x5445475f4c41434f4c) 300 (.int 32 299),k P (U 0x5445535f4c41434f4c) 302 (.int 33 301),k P (U 0x4545545f4c41434f4c) 304 (.int 34 303),k P (U 0x5445475f4c41424f4c47) 306 (.int 35 305),k P (U 0x5445535f4c41424f4c47) 308 (.int 36 307),k P (U 0x5445475f454c424154) 310 (.int 37 309),k P (U 0x5445535f454c424154) 312 (.int 38 311),k P (U 0x455a49535f59524f4d454d) 314 (.int 63 313),k P (U 0x574f52475f59524f4d454d) 316 (.int 64 315),k P (U 0x54534e4f435f323349) 318 (.int 65 317),k P (U 0x54534e4f435f343649) 320 (.int 66 319),k P (U 0x4c4c554e5f464552) 322 (.int 208 321),k P (U 0x4c4c554e5f53495f464552) 324 (.int 209 323),k P (U 0x434e55465f464552) 326 (.int 210 325),k P (U 0x54494e495f59524f4d454d) 328 (.int 64520 327),k P (U 0x504f52445f41544144) 330 (.int 64521 329),k P (U 0x59504f435f59524f4d454d) 332 (.int 64522 331),k P (U 0x4c4c49465f59524f4d454d) 334 (.int 64523 333),k P (U 0x54494e495f454c424154) 336 (.int 64524 335),k P (U 0x504f52445f4d454c45) 338 (.int 64525 337),k P (U 0x59504f435f454c424154) 340 (.int 64526 339),k P (U 0x574f52475f454c424154) 342 (.int 64527 341),k P (U 0x455a49535f454c424154) 344 (.int 64528 343),k P (U 0x4c4c49465f454c424154) 346 (.int 64529 345),k P Pk 395 (.ref 46),k P Pl 417 (.ref 59),k P Pm 502 (.ref 67),k P Pn 527 (.ref 106),k P ro 538 (.ref 113),k P rq 545 (.ref 120),k P rA 553 (.ref 127),k P l8 584 (.ref 144),k P rC 612 (.ref 164),k P rD 638 (.ref 183),k P Po 642 (.str Cy 641),k P Pp 644 (.str yV 643),k P yG 681 (.ref 202),k P yH 722 (.ref 230),k P iD 730 (.ref 242),k P Pr 731 (.ref 242),k P jD 740 (.ref 250),k P Pt 741 (.ref 250),k P yI 869 (.ref 355),k P rG 876 (.ref 366),k P rH 888 (.ref 373),k P rI 898 (.ref 380),k P rJ 905 (.ref 387),k P (U 0x5354534554) 919 (.ref 388),k P (U 0x534d5553) 938 (.ref 389),k P Pu 947 (.ref 394),k P Pw 1155 (.ref 395),k P rL 1166 (.ref 406),k P rM 1173 (.ref 413),k P Px 1177 (.int 4294967295 1176),k P Py 1181 (.ref 414),k P Pz 1208 (.ref 415),k P PA 1224 (.ref 416),k P rN 1232 (.ref 423),k P rP 1239 (.ref 430),k P rQ 1246 (.ref 437),k P rR 1254 (.ref 444),k P kR 1260 (.ref 713),k P PB 1261 (.ref 449),k P rS 1269 (.ref 456),k P rU 1278 (.ref 463),k P rV 1286 (.ref 470),k P rW 1295 (.ref 477),k P rX 1304 (.ref 484),k P yO 1338 (.ref 501),k P yP 1372 (.ref 522),k P rY 1381 (.ref 533),k P yQ 1648 (.ref 695),k P r8 1657 (.ref 706),k P PC 1667 (.ref 707),k P PD 1689 (.ref 708),k P PE 1696 (.ref 713),k P r9 1702 (.ref 718),k P yS 1786 (.ref 770),k P PF 1790 (.str aq 1789),k P PG 1792 (.str eN 1791),k P PH 1794 (.str iU 1793),k P PI 1796 (.str jF 1795),k P PJ 1798 (.str ng 1797),k P PK 1800 (.str mq 1799),k P sj 1806 (.ref 781),k P so 1812 (.ref 786),k P sv 1818 (.ref 793),k P sx 1824 (.ref 798),k P sy 1830 (.ref 805),k P sD 1843 (.ref 812),k P sF 1853 (.ref 819),k P sG 1862 (.ref 826),k P sH 1871 (.ref 833),k P uI 1877 (.ref 838)]
noncomputable def aij:List VD:=[.int 1 0,.int 0 0,.ref 20,.int 13 0,.int 0 0,.ref 30,.int 18 0,.int 0 0,.ref 37,.int 20 0,.int 0 0,.ref 44,.int 72 0,.int 0 0,.ref 112,.int 77 0,.int 0 0,.ref 119,.int 83 0,.int 0 0,.ref 126,.int 87 0,.int 0 0,.ref 133,.int 92 0,.int 0 0,.ref 153,.int 98 0,.int 0 0,.ref 172,.int 106 0,.int 0 0,.ref 191,.int 114 0,.int 0 0,.ref 212,.int 124 0,.int 0 0,.ref 241,.int 127 0,.int 0 0,.ref 249,.int 130 0,.int 0 0,.ref 256,.int 182 0,.int 0 0,.ref 365,.int 184 0,.int 0 0,.ref 372,.int 197 0,.int 0 0,.ref 379,.int 205 0,.int 0 0,.ref 386,.int 216 0,.int 0 0,.ref 405,.int 224 0,.int 0 0,.ref 412,.int 233 0,.int 0 0,.ref 422,.int 237 0,.int 0 0,.ref 429,.int 239 0,.int 0 0,.ref 436,.int 241 0,.int 0 0,.ref 443,.int 250 0,.int 0 0,.ref 448,.int 253 0,.int 0 0,.ref 455,.int 255 0,.int 0 0,.ref 462,.int 259 0,.int 0 0,.ref 469,.int 263 0,.int 0 0,.ref 476,.int 270 0,.int 0 0,.ref 483,.int 277 0,.int 0 0,.ref 490,.int 284 0,.int 0 0,.ref 511,.int 291 0,.int 0 0,.ref 532,.int 293 0,.int 0 0,.ref 539,.int 548 0,.int 0 0,.ref 705,.int 553 0,.int 0 0,.ref 712,.int 566 0,.int 0 0,.ref 717,.int 573 0,.int 0 0,.ref 724,.int 634 0,.int 0 0,.ref 780,.int 636 0,.int 0 0,.ref 785,.int 644 0,.int 0 0,.ref 792,.int 646 0,.int 0 0,.ref 797,.int 658 0,.int 0 0,.ref 804,.int 660 0,.int 0 0,.ref 811,.int 673 0,.int 0 0,.ref 818,.int 684 0,.int 0 0,.ref 825,.int 693 0,.int 0 0,.ref 832,.int 701 0,.int 0 0,.ref 837]
noncomputable def mW:Env:={scope:=pw.main.scope,locals:=mainNs,globals:=mainNs,cells:=[],code:=.ref 13,frame:=Y 14}
def cE:Code:=.body (anD pw) mW
noncomputable def Ut(l:List VM):List (Nat×VM)->List VM
 | []=>l
 |(j,e)::r=>Ut (l.set j e) r
def pT(P:abI)(a:VM)(m b:Nat)(e:List (Nat×VM)):Obj:=⟨.type "dict",Sa,.dict ⟨a::Ut ((Ot P).take m) e⟩ b,#[]⟩
noncomputable def tabObj(m:Nat):Obj:=⟨.none,Sa,.fields ⟨aij.take m⟩,#[]⟩
def x2(P:abI)(a:Nat):Obj:=cond (af0 a 1) ⟨.none,Sa,.dict ⟨[]⟩ 0,#[]⟩ ⟨.none,Sa,.dict ⟨[k P (U 0x302e6e6f697470656378452e5f5f73657373616c636275735f5f2e65707974) 581 (.int 144 0),k P (U 0x6e2e6e6f697470656378452e5f5f73657373616c636275735f5f2e65707974) 582 (.int 1 0)]⟩ 2,#[]⟩
def aiH(P:abI)(a:Nat):Obj:=cond (af0 a 2) ⟨.type "type",Sa,.cls ⟨l8,[.type "Exception"],[.ref 144,.type "Exception",.type "BaseException",.type "object"],143,l8,W,[],[],UA,Sa,UA⟩,⟨[Y (.ref 128),Sa,Y (.str l8 556),Y (.str l8 564),Y (.builtin "Exception.__new__"),Y (.bool W)]⟩⟩ ⟨.type "type",Sa,.cls ⟨l8,[.type "Exception"],[.ref 144,.type "Exception",.type "BaseException",.type "object"],143,l8,W,[],[.ref 164,.ref 183],UA,Sa,UA⟩,⟨[Y (.ref 128),Sa,Y (.str l8 556),Y (.str l8 564),Y (.builtin "Exception.__new__"),Y (.bool W)]⟩⟩
def x3(P:abI)(a:Nat):Obj:=cond (af0 a 0) (pT P (k P pX 165 (.str FL 164)) 8 9 []) (cond (af0 a 1) (pT P (k P pX 165 (.str OL 261)) 64 65 []) (cond (af0 a 2) (pT P (k P pX 165 (.str rB 554)) 70 71 []) (cond (af0 a 3) (pT P (k P pX 165 (.str rE 639)) 80 81 []) (cond (af0 a 4) (pT P (k P pX 165 (.str Hz 906)) 88 89 []) (cond (af0 a 5) (pT P (k P pX 165 (.str Hz 906)) 90 91 []) (cond (af0 a 6) (pT P (k P pX 165 (.str rO 1174)) 109 110 [(99,k P kR 1260 (.ref 449))]) (cond (af0 a 7) (pT P (k P pX 165 (.str Cv 1658)) 115 116 []) (pT P (k P pX 165 (.str O8 1787)) 132 133 []))))))))
def xg(a:Nat):Obj:=cond (af0 a 0) (tabObj 0) (cond (af0 a 1) (tabObj 12) (cond (af0 a 2) (tabObj 24) (cond (af0 a 3) (tabObj 42) (cond (af0 a 4) (tabObj 57) (cond (af0 a 5) (tabObj 60) (cond (af0 a 6) (tabObj 102) (cond (af0 a 7) (tabObj 114) (tabObj 147))))))))
noncomputable def us(s:Str)(t:Nat):VD:=.str s t
noncomputable def rf(a:Nat):VD:=.ref a
noncomputable def ni(i:Int)(t:Nat):VD:=.int i t
noncomputable def hq(o:Obj)(_:Nat):Obj:=o
noncomputable def l7(t:String)(l:List VD):Obj:=⟨.type t,Sa,.fields ⟨l⟩,#[]⟩
def FG(a b:Str)(t:Nat)(l n g:Int)(r:Nat)(e:Bool)(w x y:VD)(u:Nat):Obj:=l7 "code" [us a t,us b (t+1),us FN (t+2),ni l 0,ni n 0,ni 0 0,ni 0 0,ni g 0,rf r,.bool e,ni 181 0,rf (r+1),.none,w,x,y,ni u 0,ni l 0,us FN (u+1)]
def bQ(a b:Str)(t:Nat)(l n g:Int)(d i:Nat):Obj:=FG a b t l n g (i - 5) W (rf (i - 3)) (rf (i - 2)) (rf (i - 1)) (t+d)
def jZ(a:Str)(t:Nat)(l:Int)(i:Nat):Obj:=FG a a t l 0 0 (i - 2) UA .none .none .none (t+3)
def pU(a b:Str)(t:Nat)(l n g:Int)(i:Nat):Obj:=FG a b t l n g (i - 3) W .none .none (rf (i - 1)) (t+3)
noncomputable def bW(l:List VD)(_:Nat):Obj:=⟨.type "tuple",Sa,.seq ⟨l⟩ 0,#[]⟩
def aD:Nat->Obj:=bW []
def Uu:Nat->List Str->List VD
 |_,[]=>[]
 |t,s::l=>us s t::Uu (t+1) l
def bF(t:Nat)(l:List Str):Nat->Obj:=bW (Uu t l)
def bJ(n q:Str)(s:ajc)(_:Nat):Obj:=⟨.none,Sa,.func (fdU n q s),#[]⟩
def uk(n q:Str)(s:ajc)(d f:VD)(i:Nat):Obj:=⟨.type "function",Sa,.func (fdF n q s d f (rf (i - 1))),#[]⟩
def bO(n q:Str)(s:ajc)(f:VD):Nat->Obj:=uk n q s .none f
noncomputable def OI(l:List VD):Obj:=⟨.none,Sa,.fields ⟨l⟩,#[]⟩
def bH(_:Nat):Obj:=OI []
def jc(l:List (Int×Nat))(i:Nat):Obj:=OI (l.flatMap λe=>[ni e.1 0,ni 4 0,rf (i+e.2)])
noncomputable def vS(n:Nat)(l:List VM)(_:Nat):Obj:=⟨.type "dict",Sa,.dict ⟨l⟩ n,#[]⟩
def gR(P:abI)(n:Nat)(l:List (Str×Nat×VD)):Nat->Obj:=vS n (l.map λe=>k P e.1 e.2.1 e.2.2)
def q9(n:Nat)(l:List (Int×Nat×Str×Nat)):Nat->Obj:=vS n (l.map λe=>⟨e.1,ni e.1 e.2.1,us e.2.2.1 e.2.2.2⟩)
def OH:Nat->List (Int×Nat)->List VM
 |_,[]=>[]
 |i,e::l=>⟨e.1,ni e.1 e.2,rf (i+1)⟩::OH (i+1) l
def B8(n:Nat)(l:List (Int×Nat))(i:Nat):Obj:=vS n (OH i l) i
def eZ(f:VD)(i:Nat):Obj:=⟨.type "frame",Sa,.plain,⟨[Y (rf (i - 1)),Y (rf 3),Y (rf (i - 4)),Sa,Y f,Sa,Y (rf 0)]⟩⟩
def lz(_:Nat):Obj:=l7 "builtin_function_or_method" [.builtin "type.__prepare__",.type "type"]
def fQ(k i:Nat):Obj:=l7 "builtin_function_or_method" [.builtin "object.__init_subclass__",rf (i - k)]
def oy(k i:Nat):Obj:=l7 "super" [rf (i - k),rf (i - k),rf (i - k)]
def um(s:Str)(t i:Nat):Obj:=l7 "getset_descriptor" [us s t,rf (i - 1),.builtin "function.__dict__",.builtin "function.__dict__#set"]
def rg(s:Str)(t k i:Nat):Obj:=l7 "getset_descriptor" [us s t,rf (i - k),.builtin "ExceptionGroup.__weakref__",.none]
def jA(s:Str)(t i:Nat):Obj:=⟨.type "type",Sa,.cls ⟨s,[.type "object"],[rf i,.type "object"],i - 1,s,W,[],[],UA,Sa,UA⟩,⟨[Sa,Sa,Y (us s t),Y (us s (t+8)),Y (.builtin "object.__new__"),Y (.bool W)]⟩⟩
def EH(N:Nat):Nat->Nat->Nat->List (Nat->Obj)->((Nat->BT)->List (Nat->Obj)->Nat->BT)->Nat->BT
 |0,_,_,l,k=>k nl l
 |f+1,i,s,l,k=>match aca i N with
  |false=>k nl l
  |true=>match l with
   | []=>k nl []
   |o::l=>EH N f (i+s) (2 * s) l λa l=>EH N f (i+2 * s) (2 * s) l λb l=>k (nd i (o i) a b) l
def hm0:VD:=.str FL 164
def FK:VD:=.str (U 0x73646e696b2e65726f636d736177) 194
def kO:VD:=.str OL 261
def vT:VD:=.str rB 554
def fZ:VD:=.str rE 639
def OJ:VD:=.str Hz 906
def dG:VD:=.str rO 1174
def pW:VD:=.str Cv 1658
def og:VD:=.str O8 1787
def TR(P:abI)(k:Nat):Nat->BT:=EH 839 12 0 1 [hq (boot_o_0 P),hq (boot_o_1 P),hq (x3 P k),hq (boot_o_7 P),aD,bO rh rh (bR 10) FK,bW [ni (-1) 197,ni 2 403],bO rA rA (bR 62) kO,jc [(132,8),(138,15),(141,22),(144,30),(147,38),(150,46),(156,53),(162,60),(165,68),(168,75),(171,82),(174,89),(179,96)],jZ yP 1341 284,bO yU Ig (mem 115 5) pW,bF 902 [fG],aD,jZ yG 647 106,bH,bO m6 HM (mem 107 4) dG,bJ sH sH (bR 131),bJ kR kR (bR 97),aD,bW [ni (-1) 197],bJ cM FT (mem 65 0),bW [.none],bF 1397 [cU,dR,fJ],aD,bF 1182 [ej,gq,fh,fR,iG,gp,cA,l9,yN,HA,gc,yF,dh,fS,gC,iC,il,HB,HC,HD,HE,HF,fD,oh,yB,yC],bO uE H5 (mem 107 18) dG,bF 707 [cU,ur],bQ m5 Gf 851 179 1 3 4,aD,bH,bF 1726 [cU,yR,fG,uA],bW [ni (-1) 197,ni 4 348,ni 0 349],bW [ni (-2) 200,ni (-2) 200],gR P 3 [(ip,563,us rB 554),(iq,567,ni 87 566),(cM,575,rf 141),(ir,577,rf 142),(jC,579,rf 145),(m3,580,.none)],bO mf F1 (mem 76 1) fZ,aD,bH,q9 1 [(64529,1152,Hy,1153)],bF 1580 [cU,fG],aD,aD,bH,bO rU rU (bR 100) dG,aD,bJ ro ro (bR 60),bH,aD,bJ uB HK (mem 107 2),bF 1847 [eC,Ih,yM,Cw],aD,bH,aD,aD,bQ m8 HV 1511 419 3 3 11,aD,bJ sa Ic (mem 115 3),vS 3 [⟨(-3),ni (-3) 221,us yD 222⟩,⟨(-4),ni (-4) 224,us yE 225⟩,⟨(-5),ni (-5) 227,us vU 228⟩],aD,bW [ni (-1) 197],aD,bQ cM FZ 754 132 4 3 7,bO cM HH (mem 105 0) dG,aD,bW [ni 80 941,us Cb 942,rf 388],bH,bO cM FV (mem 70 0) fZ,bF 831 [cU],aD,bQ rS rS 1262 253 2 3 5,bJ kR kR (bR 112),bW [ni (-2) 200],bW [rf 144],bF 795 [aq],aD,bH,bO rN rN (bR 93) dG,aD,um kQ 716,fQ 4,bJ m7 HU (mem 107 10),gR P 5 [(ip,1312,us rO 1174),(oo,1314,us yO 1313),(iq,1316,ni 277 1315),(cM,1326,rf 498),(ir,1331,rf 499)],aD,bW [ni (-2) 200,ni 2 372,ni 1 373],bW [ni 106 513,ni 120 514,rf 85,rf 86],aD,bW [.none],lz,bJ sv sv (bR 125),aD,aD,bH,bJ mj Ge (mem 76 11),bF 1474 [cU,ON,gF,fG,bY,fF,cg,ik,kS],aD,bH,bQ rq rq 539 77 1 3 4,hq ⟨.type "type",Sa,.cls ⟨rD,[.ref 144],[.ref 183,.ref 144,.type "Exception",.type "BaseException",.type "object"],182,rD,W,[],[],UA,Sa,UA⟩,⟨[Y (.ref 167),Sa,Y (.str rD 613),Y (.str rD 621),Y (.builtin "Exception.__new__"),Y (.bool W)]⟩⟩,bH,bQ jE HL 1421 320 2 3 6,aD,bH,jA yQ 1382,aD,bH,bO lB HW (mem 107 12) dG,rg jC 1334 2,bQ uG Ie 1752 607 3 3 13,aD,bJ uq uq (bR 0),aD,q9 42 [(0,263,gB,418),(1,265,gB,420),(2,267,eM,422),(3,269,eM,424),(4,271,eM,426),(5,273,gB,428),(11,275,gB,430),(12,277,fF,432),(13,279,fF,434),(14,281,dg,436),(15,283,gB,438),(16,285,gc,440),(17,287,mZ,442),(18,289,gc,444),(19,291,mZ,446),(26,293,gB,448),(27,295,gB,450),(28,297,fg,452),(32,299,fR,454),(33,301,fR,456),(34,303,fR,458),(35,305,gC,460),(36,307,gC,462),(37,309,dh,464),(38,311,dh,466),(63,313,fS,468),(64,315,fS,470),(65,317,fD,472),(66,319,oh,474),(208,321,vV,476),(209,323,gB,478),(210,325,gc,480),(64520,327,vW,482),(64521,329,il,484),(64522,331,rm,486),(64523,333,fS,487),(64524,335,rn,488),(64525,337,iC,489),(64526,339,oj,490),(64527,341,dh,491),(64528,343,dh,492),(64529,345,dh,493)],aD,bH,bF 1354 [cU,bY,cg,p5],um kQ 1780,bO rJ rJ (bR 80) fZ,bJ eH HY (mem 107 14),bF 660 [cU,eC,b9,lA,cZ,df],bQ yK Ga 820 165 2 3 5,aD,bH,bH,bF 1660 [ej,gc,dh,fS,gC,iC,il],bW [ni 172 521,ni 173 522,rf 97,rf 98],gR P 2 [(ip,592,us rB 554),(iq,596,ni 92 595),(cM,606,rf 161),(ir,609,rf 162),(m3,610,.none)],aD,bO cM HI (mem 107 0) dG,bJ sy sy (bR 127),bF 1228 [iR,l9],aD,bO j0 FY (mem 71 1) fZ,jA yI 742,aD,bQ rX rX 1296 270 2 3 6,bO yT Ia (mem 115 1) pW,bW [ni (-1) 197,ni 2 360,ni 1 361],bW [ni (-1) 197],fQ 3,aD,bJ rY rY (bR 106),aD,aD,bO fR H3 (mem 107 16) dG,jc [(116,8),(121,15)],aD,bQ uC HP 1460 358 4 3 8,aD,jc [(575,8),(583,15),(592,22),(599,29),(607,36),(625,43)],bH,bQ cM FU 625 100 3 3 6,bJ iF F8 (mem 76 6),bH,bO sF sF (bR 129) og,bJ rQ rQ (bR 95),bQ gD H8 1625 539 3 3 8,bW [.none],bJ rH rH (bR 78),bF 1528 [cU,bY,cg,eH,iS,vY],bF 1327 [p4,kP,fG,gF],bH,bF 241 [kP,ik],bJ rk rk (bR 12),bW [ni 70 505,ni 79 506,rf 73,rf 74],bJ cM FQ (mem 64 0),bF 767 [cU],um kQ 1366,bJ sj sj (bR 123),q9 69 [(32,948,rK,949),(65,951,oq,952),(33,954,GQ,955),(34,957,GR,958),(66,960,Cc,961),(2,963,eM,964),(3,966,j5,967),(4,969,eG,970),(5,972,gp,973),(11,975,cA,976),(12,978,vX,979),(13,981,Cd,982),(14,984,Ce,985),(15,987,OR,988),(16,990,uv,991),(17,993,uw,994),(26,996,OS,997),(27,999,gD,1000),(28,1002,gD,1003),(0,1005,GS,1006),(1,1008,fH,1009),(18,1011,GU,1012),(19,1014,GV,1015),(35,1017,Cf,1018),(36,1020,Cg,1021),(37,1023,Ci,1024),(38,1026,GW,1027),(40,1029,ux,1030),(41,1032,GX,1033),(44,1035,GY,1036),(45,1038,Cj,1039),(46,1041,GZ,1042),(47,1044,G6,1045),(48,1047,G7,1048),(49,1050,G8,1051),(50,1053,G9,1054),(51,1056,Ha,1057),(52,1059,Hb,1060),(53,1062,Hc,1063),(54,1065,He,1066),(55,1068,Ck,1069),(58,1071,Hf,1072),(59,1074,Hg,1075),(60,1077,Hh,1078),(61,1080,Hi,1081),(62,1083,Hj,1084),(63,1086,Cm,1087),(64,1089,Hk,1090),(167,1092,Hl,1093),(172,1095,Hm,1096),(173,1098,Hn,1099),(192,1101,Ho,1102),(193,1104,Hp,1105),(194,1107,Hq,1108),(195,1110,Hr,1111),(196,1113,Ht,1114),(208,1116,uy,1117),(209,1119,Hu,1120),(210,1122,Hv,1123),(64520,1125,Cn,1126),(64521,1128,Cq,1129),(64522,1131,Cr,1132),(64523,1134,Hw,1135),(64524,1137,pZ,1138),(64525,1140,Cs,1141),(64526,1143,uz,1144),(64527,1146,Hx,1147),(64528,1149,Ct,1150),(64529,1152,Hy,1153)],bQ ow HZ 1561 468 6 3 13,um kQ 675,bO rF Gb (mem 76 9) fZ,bJ r5 HO (mem 107 6),bF 1273 [bY,cg,fG],bH,aD,jc [(100,8)],aD,aD,bQ sD sD 1831 660 2 3 10,aD,bJ uF H7 (mem 107 20),bW [.none],aD,bH,eZ dG,aD,B8 7 [(54,396),(55,398),(58,400),(59,402),(60,404),(61,406),(62,408)],bW [ni (-2) 200,ni (-2) 200],aD,aD,jZ yQ 1384 293,bH,bJ rM rM (bR 87),aD,bQ cM FX 694 116 4 3 7,bH,bO r7 HQ (mem 107 8) dG,bJ rW rW (bR 102),bQ cM H9 1715 575 1 3 5,bF 549 [om,OM],lz,bQ yJ F9 812 162 2 3 5,bF 1433 [cU,kS,fF],aD,bQ rR rR 1247 241 1 3 5,fQ 4,aD,bQ rI rI 889 197 2 3 7,aD,lz,bF 1771 [cU,uA],hq (boot_o_5 P),hq (boot_o_9 P),bF 190 [U 0x6b],bH,bW [ni (-2) 200,ni 2 407],lz,eZ fZ,aD,gR P 4 [(ip,1710,us Cv 1658),(iq,1714,ni 573 1713),(cM,1722,rf 732),(yT,1732,rf 739),(eH,1741,rf 746),(sa,1751,rf 753),(uG,1767,rf 760),(yU,1775,rf 767),(ir,1779,rf 768),(kQ,1781,rf 771),(jC,1783,rf 772),(m3,1784,.none)],bJ rJ rJ (bR 80),bF 1553 [cU,yR,fG,bY,cg],aD,aD,bH,bO sH sH (bR 131) og,bO kR kR (bR 97) dG,bQ r8 r8 1649 548 3 3 6,bW [ni (-1) 197],bO cM FT (mem 65 0) vT,bH,bJ cM HI (mem 107 0),aD,aD,bH,bJ j0 FY (mem 71 1),bF 858 [cg,df,bY,cZ],bQ uD HT 1486 393 3 3 12,aD,bJ yT Ia (mem 115 1),bW [ni (-1) 197,ni 1 354,ni 1 355],bW [ni 81 509,ni 90 510,rf 79,rf 80],rg jC 578 1,bH,bF 1376 [bY,cg,p5],pU so so 1807 636 0 3,bH,bJ fR H3 (mem 107 16),gR P 6 [(ip,689,us rE 639),(oo,691,us yH 690),(iq,693,ni 114 692),(cM,703,rf 220),(j0,711,rf 227),(ir,715,rf 228)],bQ yL Gd 835 171 2 3 5,aD,bH,gR P 10 [(ip,1710,us Cv 1658),(oo,1712,us yS 1711),(iq,1714,ni 573 1713),(cM,1722,rf 732),(yT,1732,rf 739),(eH,1741,rf 746),(sa,1751,rf 753),(uG,1767,rf 760),(yU,1775,rf 767),(ir,1779,rf 768)],bO ro ro (bR 60) kO,aD,bF 808 [cU],bO uB HK (mem 107 2) dG,bJ sF sF (bR 129),bF 1243 [b9],aD,bQ iD iD 723 124 2 3 5,bF 880 [b9,ml,Gg,j4,OO,OP],aD,bQ cM HG 1317 279 4 3 7,bO sa Ic (mem 115 3) pW,aD,bF 256 [kP,ik],bW [ni (-1) 197,ni (-1) 197],bF 571 [cU,iR],aD,gR P 4 [(ip,1346,us rO 1174),(iq,1350,ni 284 1349),(cM,1360,rf 519),(ir,1365,rf 520),(kQ,1367,rf 523),(jC,1369,rf 524),(m3,1370,.none)],aD,bW [ni 121 945,us Cb 946,rf 389],aD,gR P 4 [(ip,652,us rE 639),(iq,656,ni 106 655),(cM,668,rf 199),(ir,674,rf 200),(kQ,676,rf 203),(jC,678,rf 204),(m3,679,.none)],bJ rF Gb (mem 76 9),bF 1449 [cU,jE,fG,bY,cg,fF,ik,kS],aD,bO kR kR (bR 112) pW,bW [ni 194 525,ni 196 526,rf 103,rf 104],gR P 5 [(ip,620,us rB 554),(oo,622,us rD 621),(iq,624,ni 98 623),(cM,633,rf 180),(ir,635,rf 181)],bH,bQ rZ HJ 1403 302 2 3 5,aD,bH,bF 1615 [cU,om,Cu,fG,bY,cg,ik],oy 3,bH,bO m7 HU (mem 107 10) dG,jc [(279,8)],bQ eH Ib 1733 592 3 3 6,bW [ni (-2) 200,ni 4 378,ni 1 379],bW [ni (-2) 200],jZ rC 587 92,bH,aD,bO sv sv (bR 125) og,bF 1170 [gF],bQ fF H4 1585 492 2 3 6,aD,bO mj Ge (mem 76 11) fZ,bJ r7 HQ (mem 107 8),bF 1290 [b9,fG,j4],aD,aD,fQ 2,aD,aD,bQ sG sG 1854 684 2 3 6,aD,rg jC 1644 2,bQ jD jD 732 127 3 3 6,aD,bH,fQ 4,aD,jZ (U 0x3e656c75646f6d3c) 182 1,bO uq uq (bR 0) hm0,bQ rj rj 246 18 1 3 4,q9 8 [(64522,331,rm,486),(64523,333,fS,487),(64524,335,rn,488),(64525,337,iC,489),(64526,339,oj,490),(64527,341,dh,491),(64528,343,dh,492),(64529,345,dh,493)],jZ l8 558 87,aD,bJ cM HH (mem 105 0),oy 3,bF 920 [Gv,Gw,Gx,Gy,Gz,GA,GB,GD,GF,GG,GH,GI,GJ,GK,GL,GN,GO,GP],bO eH HY (mem 107 14) dG,bJ cM FV (mem 70 0),aD,bQ ou HN 1439 341 1 3 4,pU uI uI 1872 701 1 3,aD,aD,bW [ni (-1) 197],oy 1,bQ jD F6 786 147 3 3 6,bH,bO sy sy (bR 127) og,bJ rN rN (bR 93),bQ m9 H6 1600 517 4 3 9,gR P 4 [(ip,689,us rE 639),(iq,693,ni 114 692),(cM,703,rf 220),(j0,711,rf 227),(ir,715,rf 228),(kQ,717,rf 231),(jC,719,rf 232),(m3,720,.none)],rg jC 865 2,bF 1504 [cU,fG,bY,cg],aD,bH,bW [ni (-2) 200,ni 1 366,ni 1 367],bW [ni (-1) 197,ni (-1) 197],lz,bQ mh F4 771 141 1 3 4,bO rY rY (bR 106) dG,aD,bQ rL rL 1156 216 1 3 8,bH,eZ fZ,bF 846 [cU,j4],aD,bQ rV rV 1279 259 2 3 5,eZ pW,aD,bF 634 [cg],bO iF F8 (mem 76 6) fZ,aD,bH,bO rQ rQ (bR 95) dG,bF 1636 [fK,dg,fJ,dR,iw],bH,bO rH rH (bR 78) fZ,bJ lB HW (mem 107 12),jA yO 1305,aD,bJ rh rh (bR 10),bO rk rk (bR 12) FK,bW [ni (-1) 197],bO cM FQ (mem 64 0) vT,bJ mf F1 (mem 76 1),oy 3,bO sj sj (bR 123) og,q9 17 [(49,1050,G8,1051),(50,1053,G9,1054),(51,1056,Ha,1057),(52,1059,Hb,1060),(53,1062,Hc,1063),(54,1065,He,1066),(55,1068,Ck,1069),(58,1071,Hf,1072),(59,1074,Hg,1075),(60,1077,Hh,1078),(61,1080,Hi,1081),(62,1083,Hj,1084),(63,1086,Cm,1087),(64,1089,Hk,1090),(167,1092,Hl,1093),(172,1095,Hm,1096),(173,1098,Hn,1099)],aD,oy 3,bH,bO r5 HO (mem 107 6) dG,bJ rU rU (bR 100),pU r9 r9 1697 566 2 3,bF 531 [om,OK,B9,FO,FP],eZ vT,bQ pY F7 796 150 2 3 6,bF 1414 [cU,U 0x6b736174,eC,OV],aD,bQ rP rP 1233 237 1 3 4,bO uF H7 (mem 107 20) dG,bH,bQ rG rG 870 182 1 3 4,aD,bH,bF 1745 [cU,ik,uA,O5],bW [ni (-2) 200,ni 8 399],bW [ni 124 517,ni 138 518,rf 91,rf 92],bF 600 [cU,iR,cZ,df],bQ iD F5 778 144 2 3 5,aD,pU sx sx 1819 646 0 3,bO rM rM (bR 87) OJ,bJ uE H5 (mem 107 18),aD,aD,bH,bO rW rW (bR 102) dG,aD,bJ rA rA (bR 62),aD,bW [.none],bJ m6 HM (mem 107 4),bF 1866 [dR,bY,O9],aD,bH,gR P 17 [(ip,749,us rE 639),(oo,751,us yI 750),(iq,753,ni 130 752),(cM,763,rf 264),(mf,770,rf 271),(mh,777,rf 278),(iD,785,rf 286),(jD,794,rf 294),(pY,804,rf 302),(iF,811,rf 309),(yJ,819,rf 316),(yK,827,rf 324),(rF,834,rf 331),(yL,842,rf 338),(mj,850,rf 345),(m5,857,rf 352),(ir,862,rf 353)],aD,bQ kS HX 1537 441 4 3 10,aD,bJ yU Ig (mem 115 5),hq (x2 P k),hq (boot_o_4 P),hq (boot_o_8 P),bH,aD,bW [ni (-2) 200,ni 1 405],bW [.type "Exception"],jZ yI 744 130,eZ dG,bF 1776 [iS,fg,mn],aD,bH,eZ fZ,bF 823 [cU,j0],aD,bQ sH sH 1863 693 2 3 6,pU kR kR 1255 250 1 3,bJ r8 r8 (bR 108),bW [ni 167 519,ni 167 520,rf 94,rf 95],bQ cM FT 597 94 4 3 7,aD,aD,bH,gR P 5 [(gc,1209,us gc 1210),(gC,1211,us gC 1212),(il,1213,us il 1214),(iC,1215,us iC 1216),(vW,1217,us il 1218)],aD,aD,bO m5 Gf (mem 76 12) fZ,bJ uD HT (mem 107 9),bF 1299 [uA,fG,OU],aD,bW [ni (-2) 200,ni 8 351,ni 0 352],bW [ni (-1) 197],hq (aiH P k),aD,bH,bJ so so (bR 124),aD,aD,lz,bJ yL Gd (mem 76 10),bF 1463 [cU,jE,fG,cg,fF],aD,lz,bQ ro ro 528 72 1 3 8,bF 628 [cU,iR,cg],bH,bQ uB HK 1411 309 2 3 7,aD,bH,bF 1628 [cU,bY,cg,fg,O1],bJ iD iD (bR 72),bH,bO m8 HV (mem 107 11) dG,bJ cM HG (mem 104 0),bQ sa Ic 1742 599 2 3 7,vS 2 [⟨(-16),ni (-16) 203,us gc 233⟩,⟨(-17),ni (-17) 206,us yF 234⟩],bH,bW [ni 69 503,ni 69 504,rf 70,rf 71],bH,bO cM FZ (mem 76 0) fZ,bF 1361 [cg,ml,p5,bY],bH,bW [ni 103 943,us Ca 944,rf 389],bF 1564 [cU,om,Cu,fG,bY,cg,dh,ik,ur,j4],bF 669 [df,cZ,eC,b9,lA],aD,bH,bO rS rS (bR 99) dG,pU kR kR 1690 553 3 3,bW [ni (-2) 200],lz,aD,bJ rZ HJ (mem 107 1),bF 1834 [sA,uH,j4,b9,cZ,df,eC],aD,bH,rg jC 718 2,aD,bQ m7 HU 1501 414 4 3 7,aD,bJ eH Ib (mem 115 2),bW [ni (-2) 200,ni 2 375,ni 0 376],bW [ni (-2) 200],jc [(94,8)],aD,gR P 26 [(ip,1389,us rO 1174),(oo,1391,us yQ 1390),(iq,1393,ni 293 1392),(cM,1402,rf 547),(rZ,1410,rf 554),(uB,1420,rf 561),(jE,1429,rf 568),(m6,1438,rf 575),(ou,1445,rf 582),(r5,1459,rf 589),(uC,1470,rf 596),(r7,1485,rf 603),(uD,1500,rf 610),(m7,1510,rf 617),(m8,1524,rf 624),(lB,1536,rf 631),(kS,1549,rf 638),(eH,1560,rf 645),(ow,1576,rf 652),(fR,1584,rf 659),(fF,1593,rf 666),(uE,1599,rf 671),(m9,1611,rf 678),(uF,1624,rf 685),(gD,1635,rf 692),(ir,1641,rf 693)],bQ sv sv 1813 644 0 3 3,bH,bJ fF H4 (mem 107 17),bF 697 [cU,bY,cZ,df],bQ mj Ge 843 174 1 3 5,aD,bH,bF 1718 [cU,yR],bO rq rq (bR 61) kO,oy 1,bF 815 [cU,eC],bO jE HL (mem 107 3) dG,bJ sG sG (bR 130),bF 1250 [l9,ik],um kQ 1642,bJ jD jD (bR 74),bF 892 [fG,U 0x73746962,OQ,B9],aD,oy 3,bO uG Ie (mem 115 4) pW,hq (xg k),bQ uq uq 187 1 1 3 4,bJ rj rj (bR 11),q9 17 [(28,297,fg,452),(32,299,fR,454),(33,301,fR,456),(34,303,fR,458),(35,305,gC,460),(36,307,gC,462),(37,309,dh,464),(38,311,dh,466),(63,313,fS,468),(64,315,fS,470),(65,317,fD,472),(66,319,oh,474),(208,321,vV,476),(209,323,gB,478),(210,325,gc,480),(64520,327,vW,482),(64521,329,il,484)],jc [(89,8)],bF 757 [cU,bY,cZ,df],aD,rg jC 1782 2,bF 908 [Gh,Gi,Gj,Gk,Gl,Gm,Gn,Gp,Gq,Gs,Gu],bQ eH HY 1550 465 5 3 8,aD,uk yK Ga (mem 76 8) (.ref 317) fZ,bJ ou HN (mem 107 5),bJ uI uI (bR 132),bF 1265 [bY,cg],gR P 7 [(ej,1668,us ej 1669),(gc,1670,us O2 1671),(dh,1672,us dh 1673),(fS,1674,us fS 1675),(gC,1676,us gC 1677),(iC,1678,us O3 1679),(il,1680,us O4 1681)],bW [ni (-1) 197],hq ⟨.type "type",Sa,.cls ⟨rC,[.ref 144],[.ref 164,.ref 144,.type "Exception",.type "BaseException",.type "object"],163,rC,W,[],[],UA,Sa,UA⟩,⟨[Y (.ref 148),Sa,Y (.str rC 585),Y (.str rC 593),Y (.builtin "Exception.__new__"),Y (.bool W)]⟩⟩,bJ jD F6 (mem 76 4),aD,bQ sy sy 1825 658 0 3 3,aD,bJ m9 H6 (mem 107 19),bF 712 [df,bY,cZ],um kQ 863,bH,bO rX rX (bR 103) dG,aD,bW [ni (-1) 197,ni 2 363,ni 0 364],bW [ni 103 511,ni 105 512,rf 82,rf 83],bW [rf 144],bJ mh F4 (mem 76 2),bQ rY rY 1373 291 3 3 6,bH,bJ rL rL (bR 86),aD,jZ yH 684 114,bH,bO uC HP (mem 107 7) dG,bJ rV rV (bR 101),jZ yS 1705 573,bF 542 [om],bO cM FU (mem 66 0) vT,bQ iF F8 805 156 1 3 4,bF 1424 [cU,jE,l9],aD,bQ rQ rQ 1240 239 1 3 4,bO gD H8 (mem 107 21) dG,aD,bQ rH rH 877 184 2 3 9,aD,gR P 4 [(ip,1312,us rO 1174),(iq,1316,ni 277 1315),(cM,1326,rf 498),(ir,1331,rf 499),(kQ,1333,rf 502),(jC,1335,rf 503),(m3,1336,.none)],bF 1755 [cU,bY,cg,cZ,df,O6,iS,O7,ow,ik],aD,bQ rk rk 253 20 1 3 5,bW [ni (-2) 200],bQ cM FQ 568 89 2 3 5,aD,rg jC 1368 2,bQ sj sj 1801 634 0 3 3,q9 17 [(27,999,gD,1000),(28,1002,gD,1003),(0,1005,GS,1006),(1,1008,fH,1009),(18,1011,GU,1012),(19,1014,GV,1015),(35,1017,Cf,1018),(36,1020,Cg,1021),(37,1023,Ci,1024),(38,1026,GW,1027),(40,1029,ux,1030),(41,1032,GX,1033),(44,1035,GY,1036),(45,1038,Cj,1039),(46,1041,GZ,1042),(47,1044,G6,1045),(48,1047,G7,1048)],bO ow HZ (mem 107 15) dG,rg jC 677 2,aD,bQ r5 HO 1446 345 3 3 11,aD,bJ r9 r9 (bR 114),bH,jZ rD 615 98,bJ pY F7 (mem 76 5),bH,bO sD sD (bR 128) og,bJ rP rP (bR 94),bQ uF H7 1612 527 6 3 10,aD,bJ rG rG (bR 77),bF 1514 [cU,bY,cg,vY,fg,OY,OZ,j0],aD,bH,bW [ni (-1) 197,ni 4 397],bW [ni (-2) 200],bH,bJ iD F5 (mem 76 3),eZ dG,bJ sx sx (bR 126),bQ rM rM 1167 224 1 3 4,bH,bO cM FX (mem 71 0) fZ,bF 854 [cU],aD,bQ rW rW 1287 263 2 3 6,bO cM H9 (mem 115 0) pW,aD,gR P 5 [(ip,652,us rE 639),(oo,654,us yG 653),(iq,656,ni 106 655),(cM,668,rf 199),(ir,674,rf 200)],bO yJ F9 (mem 76 7) fZ,aD,bH,bO rR rR (bR 96) dG,aD,lz,bO rI rI (bR 79) fZ,bJ kS HX (mem 107 13),gR P 5 [(ip,1346,us rO 1174),(oo,1348,us yP 1347),(iq,1350,ni 284 1349),(cM,1360,rf 519),(ir,1365,rf 520)],aD,hq (boot_o_6 P),hq (boot_o_10 P),aD,bF 249 [kP],bW [ni (-2) 200,ni 4 409],gR P 5 [(ip,563,us rB 554),(oo,565,us l8 564),(iq,567,ni 87 566),(cM,575,rf 141),(ir,577,rf 142)],aD,bH,jA yS 1703,bQ rJ rJ 899 205 1 3 4,aD,bH,bJ yK Ga (mem 76 8),bF 1442 [cU],aD,aD,bO r8 r8 (bR 108) dG,bW [ni (-2) 200],bF 607 [df,cZ],bF 789 [cU,eC,b9],bQ cM HI 1394 295 3 3 6,aD,bH,bF 1603 [cU,om,bY,cg,yN,O0],bQ j0 FY 704 121 1 3 5,gR P 4 [(ip,749,us rE 639),(iq,753,ni 130 752),(cM,763,rf 264),(mf,770,rf 271),(mh,777,rf 278),(iD,785,rf 286),(jD,794,rf 294),(pY,804,rf 302),(iF,811,rf 309),(yJ,819,rf 316),(yK,827,rf 324),(rF,834,rf 331),(yL,842,rf 338),(mj,850,rf 345),(m5,857,rf 352),(ir,862,rf 353),(kQ,864,rf 356),(jC,866,rf 357),(m3,867,.none)],bO uD HT (mem 107 9) dG,bJ rX rX (bR 103),bQ yT Ia 1723 583 3 3 7,bW [ni (-1) 197,ni 1 357,ni 0 358],bW [ni (-1) 197],oy 2,bF 774 [cU],aD,bO so so (bR 124) og,bF 1159 [kP,ur,OT,yM,om],bQ fR H3 1577 485 2 3 5,aD,bO yL Gd (mem 76 10) fZ,bJ uC HP (mem 107 7),bF 1282 [bY,cg],aD,aD,bJ cM FU (mem 66 0),aD,aD,bQ sF sF 1844 673 3 3 7,aD,bJ gD H8 (mem 107 21),uk iD iD (bR 72) (.ref 235) fZ,aD,bH,bO cM HG (mem 104 0) dG,aD,bH,aD,bW [ni (-1) 197],aD,bH,jA yP 1339,aD,bW [rf 390,rf 391,rf 392,rf 393],bJ ow HZ (mem 107 15),jA yG 645,bQ rF Gb 828 168 1 3 4,aD,bH,aD,bW [rf 72,rf 75,rf 78,rf 81,rf 84,rf 87,rf 90,rf 93,rf 96,rf 99,rf 102,rf 105],aD,bF 799 [cU,iR,l9],bO rZ HJ (mem 107 1) dG,bJ sD sD (bR 128),bF 1236 [l9],aD,fQ 4,bF 873 [ON],aD,jZ yO 1307 277,bO eH Ib (mem 115 2) pW,bW [ni (-2) 200,ni 4 381,ni 0 382],bW [ni 121 515,ni 123 516,rf 88,rf 89],eZ vT,bF 781 [cU,j0],jc [(295,8),(302,15),(309,22),(320,29),(337,36),(341,43),(345,50),(358,57),(375,64),(393,71),(414,78),(419,85),(435,92),(441,99),(465,106),(468,113),(485,120),(492,127),(500,132),(517,139),(527,146),(539,153)],aD,aD,bO fF H4 (mem 107 17) dG,bJ cM FX (mem 71 0),aD,bQ r7 HQ 1471 375 2 3 12,aD,bJ cM H9 (mem 115 0),bH,aD,bJ yJ F9 (mem 76 7),bH,bO sG sG (bR 130) og,bJ rR rR (bR 96),oy 3,uk jD jD (bR 74) (.ref 243) fZ,bJ rI rI (bR 79),bF 1540 [cU,fG,bY,cg,om,Cu,eH],aD,bH,hq ⟨.type "frame",Sa,.plain,⟨[Y (.ref 13),Y (.ref 3),Y (.ref 3),Sa,Y (.str FL 164),Sa,Y (.ref 0)]⟩⟩,vS 4 [⟨(-2),ni (-1) 197,us fD 211⟩,⟨(-2),ni (-2) 200,us oh 212⟩,⟨(-16),ni (-16) 203,us yB 213⟩,⟨(-17),ni (-17) 206,us yC 214⟩],bO rj rj (bR 11) FK,bW [ni (-1) 197],eZ vT,bJ cM FZ (mem 76 0),bQ cM HH 1351 286 4 3 7,fQ 4,bW [ni 69 939,us Ca 940,rf 388],aD,bQ cM FV 657 108 6 3 9,bH,bO ou HN (mem 107 5) dG,bO uI uI (bR 132) og,bJ rS rS (bR 99),bH,bW [ni 192 523,ni 193 524,rf 100,rf 101],fQ 2,uk jD F6 (mem 76 4) (.ref 287) fZ,bF 1406 [cU,bY],aD,bQ rN rN 1225 233 2 3 5,bO m9 H6 (mem 107 19) dG,jA yH 682,oy 3,aD,lz,bF 1736 [cU,yR,fG],bW [ni (-2) 200,ni 1 369,ni 0 370],bW [ni (-1) 197],gR P 5 [(ip,592,us rB 554),(oo,594,us rC 593),(iq,596,ni 92 595),(cM,606,rf 161),(ir,609,rf 162)],bO mh F4 (mem 76 2) fZ,aD,aD,bO rL rL (bR 86) OJ,bF 1588 [cU,fG,uA],aD,aD,bH,bO rV rV (bR 101) dG,aD,bJ rq rq (bR 61),gR P 2 [(ip,620,us rB 554),(iq,624,ni 98 623),(cM,633,rf 180),(ir,635,rf 181),(m3,636,.none)],aD,bJ jE HL (mem 107 3),bF 1857 [eC,Ih,Cw],aD,gR P 4 [(ip,1389,us rO 1174),(iq,1393,ni 293 1392),(cM,1402,rf 547),(rZ,1410,rf 554),(uB,1420,rf 561),(jE,1429,rf 568),(m6,1438,rf 575),(ou,1445,rf 582),(r5,1459,rf 589),(uC,1470,rf 596),(r7,1485,rf 603),(uD,1500,rf 610),(m7,1510,rf 617),(m8,1524,rf 624),(lB,1536,rf 631),(kS,1549,rf 638),(eH,1560,rf 645),(ow,1576,rf 652),(fR,1584,rf 659),(fF,1593,rf 666),(uE,1599,rf 671),(m9,1611,rf 678),(uF,1624,rf 685),(gD,1635,rf 692),(ir,1641,rf 693),(kQ,1643,rf 696),(jC,1645,rf 697),(m3,1646,.none)],bF 735 [l9,eC,b9],aD,bQ lB HW 1525 435 3 3 9,um kQ 1332,bJ uG Ie (mem 115 4),bQ rh rh 238 13 1 3 5,B8 12 [(40,347),(41,350),(44,353),(45,356),(46,359),(47,362),(48,365),(49,368),(50,371),(51,374),(52,377),(53,380)],bW [ni 80 507,ni 80 508,rf 76,rf 77],bF 576 [iR],bQ mf F1 764 138 1 3 4,fQ 4,aD,q9 17 [(192,1101,Ho,1102),(193,1104,Hp,1105),(194,1107,Hq,1108),(195,1110,Hr,1111),(196,1113,Ht,1114),(208,1116,uy,1117),(209,1119,Hu,1120),(210,1122,Hv,1123),(64520,1125,Cn,1126),(64521,1128,Cq,1129),(64522,1131,Cr,1132),(64523,1134,Hw,1135),(64524,1137,pZ,1138),(64525,1140,Cs,1141),(64526,1143,uz,1144),(64527,1146,Hx,1147),(64528,1149,Ct,1150)],bH,fQ 4,bF 838 [cU,b9],aD,bQ rU rU 1270 255 3 3 6,bO r9 r9 (bR 114) pW,aD,aD,uk pY F7 (mem 76 5) (.ref 295) fZ,aD,bH,bO rP rP (bR 94) dG,aD,bF 726 [l9,j0],bO rG rG (bR 77) fZ,bJ m8 HV (mem 107 11),bF 1320 [cU,kP,gF,fG],aD,bW [ni (-1) 197,ni 1 401],bW [ni (-2) 200],aD,uk iD F5 (mem 76 3) (.ref 279) fZ,bH,bO sx sx (bR 126) og,bF 1178 [eM,j5,eG],pU uE H5 1594 500 6 3,bH,bJ m5 Gf (mem 76 12),bF 1489 [cU,fG,bY,fF,cg,ik,HR,vY,OX],aD,bH,bQ rA rA 546 83 1 3 5,jc [(108,8)],aD,bQ m6 HM 1430 337 3 3 6,aD,bH,bF 1652 [dR,fJ,bY],aD,bH,bO kS HX (mem 107 13) dG,jc [(286,8)],bQ yU Ig 1768 625 2 3 5] λa _=>a
def S0(w:afJ)(os:acH):alB:=⟨TR w.params 0 15,15,oF,⟨[]⟩,lU,187,os⟩
def S1(w:afJ)(os:acH):alB:=⟨TR w.params 1 67,67,oF,⟨[]⟩,lU,418,os⟩
def S2(w:afJ)(os:acH):alB:=⟨TR w.params 2 148,148,oF,⟨[]⟩,lU,585,os⟩
def S3(w:afJ)(os:acH):alB:=⟨TR w.params 3 251,251,oF,⟨[]⟩,lU,742,os⟩
def S4(w:afJ)(os:acH):alB:=⟨TR w.params 4 395,395,oF,⟨[]⟩,lU,948,os⟩
def S5(w:afJ)(os:acH):alB:=⟨TR w.params 5 407,407,oF,⟨[]⟩,lU,1167,os⟩
def S6(w:afJ)(os:acH):alB:=⟨TR w.params 6 534,534,oF,⟨[]⟩,lU,1382,os⟩
def S7(w:afJ)(os:acH):alB:=⟨TR w.params 7 719,719,oF,⟨[]⟩,lU,1703,os⟩
def S8(w:afJ)(os:acH):alB:=⟨TR w.params 8 839,839,oF,⟨[]⟩,lU,1878,os⟩
def nR(w:afJ)(n:Nat)(S:alB)(a:amC)(r:Option (aod×alB×Code×Pos)):Prop:=(aoc ak1 pw (w.withFollow "special-get-raises" UA) 11 (Y (.ref 6)) 1 n S a,aoc ak1 pw (w.withFollow "special-get-raises" W) 11 (Y (.ref 6)) 1 n S a)=(r,r)
def T6:amC:=⟨(akS (jR 0 58) mW).wrap anO amP id id,cE,⟨0,0,0,0⟩,[als ⟨0,0,0,0⟩]⟩
noncomputable def en0:Pos:=⟨69,0,69,6⟩
noncomputable def Q3:Nat:=1115
def T7:amC:=⟨(akS (jR 58 7) mW).wrap anO amP id id,cE,⟨69,0,69,6⟩,[als ⟨0,0,0,0⟩]⟩
noncomputable def Fd:Pos:=⟨87,0,91,22⟩
noncomputable def Q4:Nat:=1254
def T8:amC:=⟨(akS (jR 65 11) mW).wrap anO amP id id,cE,⟨87,0,91,22⟩,[als ⟨0,0,0,0⟩]⟩
noncomputable def en2:Pos:=⟨129,0,129,14⟩
noncomputable def Q5:Nat:=1093
def T9:amC:=⟨(akS (jR 76 9) mW).wrap anO amP id id,cE,⟨129,0,129,14⟩,[als ⟨0,0,0,0⟩]⟩
noncomputable def en3:Pos:=⟨214,0,214,4⟩
noncomputable def Q6:Nat:=830
def Ua:amC:=⟨(akS (jR 85 2) mW).wrap anO amP id id,cE,⟨214,0,214,4⟩,[als ⟨0,0,0,0⟩]⟩
noncomputable def en4:Pos:=⟨216,0,223,15⟩
noncomputable def Q7:Nat:=1281
def Ub:amC:=⟨(akS (jR 87 20) mW).wrap anO amP id id,cE,⟨216,0,223,15⟩,[als ⟨0,0,0,0⟩]⟩
noncomputable def en5:Pos:=⟨291,0,292,49⟩
noncomputable def Q8:Nat:=974
def Uc:amC:=⟨(akS (jR 107 8) mW).wrap anO amP id id,cE,⟨291,0,292,49⟩,[als ⟨0,0,0,0⟩]⟩
noncomputable def en6:Pos:=⟨566,0,572,42⟩
noncomputable def Q9:Nat:=1197
def Ud:amC:=⟨(akS (jR 115 18) mW).wrap anO amP id id,cE,⟨566,0,572,42⟩,[als ⟨0,0,0,0⟩]⟩
noncomputable def NO:Pos:=⟨701,0,717,15⟩
noncomputable def Ra:Nat:=752
theorem pb0:∀(w:afJ) (os:acH),nR w Q3 (S0 w os) T6 (Y (.next,S1 w os,cE,en0)):=by
 unfold nR;rw[aan,WJ];unfold T6;rw[aao];intro w os
 kernel_rfl!
theorem pb1:∀(w:afJ) (os:acH),nR w Q4 (S1 w os) T7 (Y (.next,S2 w os,cE,Fd)):=by
 unfold nR;rw[aan,WJ];unfold T7;rw[aao];intro w os
 kernel_rfl!
theorem pc2:∀(w:afJ) (os:acH),aoc ak1 pw w 11 (Y (.ref 6)) 1 Q5 (S2 w os) T8=Y (.next,S3 w os,cE,en2):=by
 rw[aan,WJ];unfold T8;rw[aao];intro w os
 kernel_rfl!
theorem pc3:∀(w:afJ) (os:acH),aoc ak1 pw w 11 (Y (.ref 6)) 1 Q6 (S3 w os) T9=Y (.next,S4 w os,cE,en3):=by
 rw[aan,WJ];unfold T9;rw[aao];intro w os
 kernel_rfl!
theorem pb4:∀(w:afJ) (os:acH),nR w Q7 (S4 w os) Ua (Y (.next,S5 w os,cE,en4)):=by
 unfold nR;rw[aan,WJ];unfold Ua;rw[aao];intro w os
 kernel_rfl!
theorem pb5:∀(w:afJ) (os:acH),nR w Q8 (S5 w os) Ub (Y (.next,S6 w os,cE,en5)):=by
 unfold nR;rw[aan,WJ];unfold Ub;rw[aao];intro w os
 kernel_rfl!
theorem pb6:∀(w:afJ) (os:acH),nR w Q9 (S6 w os) Uc (Y (.next,S7 w os,cE,en6)):=by
 unfold nR;rw[aan,WJ];unfold Uc;rw[aao];intro w os
 kernel_rfl!
theorem pc7:∀(w:afJ) (os:acH),aoc ak1 pw w 11 (Y (.ref 6)) 1 Ra (S7 w os) Ud=Y (.next,S8 w os,cE,NO):=by
 rw[aan,WJ];unfold Ud;rw[aao];intro w os
 kernel_rfl!
theorem afV:opening pw=plainProg pw.main.scope.names:=by kernel_rfl!
theorem acI:∀s,fenceModules? pw s=Y s:=by intro s;kernel_rfl!
theorem ahD:∀w:afJ,((al0 w.params).isNs akp&&(apF []:Array anr).size == 0,(al0 w.params).objs.size,(al0 w.params).nsMap akp "__annotations__")=(W,11,Y (.ref 6)):=by
 intro w;kernel_rfl!
theorem agl:∀(w:afJ) (os:acH),topGo ak1 pw w 11 (Y (.ref 6)) 12 ⟨al0 w.params,apF [],ap2,aqk,os⟩ (topStub pw)=Y ((S0 w os).abs,⟨denote ak1 cE,cE,⟨0,0,0,0⟩,[als ⟨0,0,0,0⟩]⟩):=by
 rw[aoM,aoN,WJ];intro w os;kernel_rfl!
theorem aaC:∀(w:afJ) (os:acH),segRun ak1 pw w 11 (Y (.ref 6)) 1 1 (S0 w os).abs (blockOf (anD pw) mW cE ⟨0,0,0,0⟩ [als ⟨0,0,0,0⟩])=Y (.next,(S0 w os).abs,cE,⟨0,0,0,0⟩):=by
 intro w os;kernel_rfl!
theorem acJ:∀(w:afJ) (os:acH),topRun ak1 pw w 11 (Y (.ref 6)) 2 (S8 w os).abs ⟨anO .next,cE,NO,[als ⟨0,0,0,0⟩]⟩=Y (S8 w os).abs:=by
 intro w os;kernel_rfl!
theorem agf:anD pw=jR 0 58++(jR 58 7++(jR 65 11++(jR 76 9++(jR 85 2++(jR 87 20++(jR 107 8++(jR 115 18++[]))))))):=by kernel_rfl!
theorem zA{w:afJ}{n:Nat}{S:alB}{a:amC}(h:nR w n S a r):aoc ak1 pw w 11 (Y (.ref 6)) 1 n S a=r:=by
 have h:=Prod.mk.inj h;have e:=World.withFollow_self w "special-get-raises";cases hb:w.params.followText "special-get-raises"
 .rw[hb]at e;rw[e]at h;exact h.1
 .rw[hb]at e;rw[e]at h;exact h.2
def MM:Nat:=12+(1+(Q3+(Q4+(Q5+(Q6+(Q7+(Q8+(Q9+(Ra+2)))))))))
theorem ahg(w:afJ)(os:acH):topRun ak1 pw w 11 (Y (.ref 6)) MM ⟨al0 w.params,apF [],ap2,aqk,os⟩ (topStub pw)=Y (S8 w os).abs:=by
 refine go_top (agl w os) (piece_block (env:=mW) (q:=⟨0,0,0,0⟩) (aaC w os) ?_);rw[agf];exact al1 (al2 (zA (pb0 w os))) (al1 (al2 (zA (pb1 w os))) (al1 (al2 (pc2 w os)) (al1 (al2 (pc3 w os))
  (al1 (al2 (zA (pb4 w os))) (al1 (al2 (zA (pb5 w os))) (al1 (al2 (zA (pb6 w os))) (al1 (al2 (pc7 w os)) (piece_nil (acJ w os)))))))))
def qc:=TP [108,97,119]
def afu:=TP [114,101,97,100,95,98,111,100,121]
def wV:OpenLaw:={prog:=qp,name:=qc,about:=[afu],foot:=akl.foot,most:=Y 63,bound:=Sa,writes:=UA}
theorem ahi:akl=wV:=by
 unfold akl;rw[ags]
 kernel_rfl!
theorem ahr:wV.wellSaid=W:=by
 unfold OpenLaw.wellSaid OpenRow.wellSaid OpenRow.partSaid;simp only[VG]
 repeat' apply And.intro
 all_goals (
  (try unfold looksOpen)
  (try simp only[VG])
  (try repeat' apply And.intro)
  all_goals (try simp only[aoO,aoP,ao8,ao9,aoQ,al5,aoR,aoS,akV,apa,aoT,aoU,aoV,apb,apq,apc,aoW,apd,aqS,aoX,apr,aoY]))
 all_goals decide +kernel
def qL:akH:={qp with main:={qp.main with body:=[bR 132]} }
noncomputable def keysOf:List VM->List Str
 | []=>[]
 |⟨_,.str s _,_⟩::r=>s::keysOf r
 |_::r=>keysOf r
noncomputable def P0:abI:={strHash:=λ_=>0,shareClass:=id,mergeTok:=id,idOf:=λ_=>0,idOfShared:=λ_ _=>0,followText:=λ_=>UA,idOfImm:=λ_=>0}
def uU:List Str:=(keysOf ((Ot P0).drop 8)).filter λs=>!(s == qc)
def H1(P:abI):WA:=absHeap (TR P 8 839) 839 oF
theorem ae6:∀(w:afJ) (os:acH),(staticsOk (ap3 qp.main.body) (al0 w.params) (H1 w.params)&&namesBound qp (H1 w.params)&&gensDone ⟨H1 w.params,⟨[]⟩,lU,1878,os⟩&&laidKept (al0 w.params) (H1 w.params))=W:=by
 unfold namesBound;rw[akV,aoZ,al5];intro w os
 kernel_rfl!
theorem ae7:∀(w:afJ) (os:acH),openSeen qL uU (ap3 qp.main.body) (λ_=>W) W ⟨H1 w.params,⟨[]⟩,lU,1878,os⟩=openGood qL uU:=by
 rw[ape,akV];intro w os
 kernel_rfl!
def II:DefRec:=match bR 132 with
 | .FunctionDef n a b _ _ _ sc _ _ pos=>⟨n,a,b,sc,pos⟩
 |_=>⟨qc,⟨[],[],Sa,[],[],Sa,[]⟩,[],⟨.module,[],UA,UA,[]⟩,⟨0,0,0,0⟩⟩
theorem aeZ:LeftO qp qL uU (λ_=>W) (λs=>s.heap) (λw=>H1 w.params) MM:=by
 refine LeftO.of_pieces (H₀:=al0) (H₁:=H1) (gs₀:=apF []) (gs₁:=⟨[]⟩) (d₀:=ap2) (d₁:=lU) (k₀:=aqk) (k₁:=1878) (m₀:=11) (ann:=Y (.ref 6)) (M:=MM)
  (boot_open afV (by decide +kernel) acI) ahD (λw os=>ahg w os) (by decide +kernel) (λw=>?_)
 funext os
 exact aqF (ae6 w os) (aqF (ae7 w os) rfl)
theorem aiA(call:WalkO qL uU (λ_ _=>True) (λw h=>∀a o,(H1 w.params).get? a=Y o->h.get? a=Y o) wV.row.toRowW II [] λf vs=>aqZ f vs):akl.Holds:=by
 rw[ahi];refine holds_law ahr λb=>?_;refine holds_open (q:=qL) (loose:=uU) (Xt:=λ_=>W) (XP:=λ_ _=>True) (Yf:=λs=>s.heap) (Ya:=λw=>H1 w.params) (N:=MM) (d:=II) (kwd:=[])
  aeZ (λw s e a o h=>e▸h) (λw h h' y k a o e=>k a o (y a o e)) (λ_ _=>trivial) (λ_ _ _ _ _=>trivial) ?_ ?_ ?_ (λs _=>recFacts_nil rfl) rfl b ?_ ⟨rfl,rfl,rfl,rfl,rfl,by decide +kernel⟩ ?_ call
 .kernel_rfl!
 .kernel_rfl!
 .kernel_rfl!
 .decide +kernel
 .exact⟨[.list []],by decide +kernel,by decide +kernel⟩
end
section
open PySem PySem.W
noncomputable def sl{α:Type}(a:α):α:=(apG (⟨⟨a,rfl⟩⟩: Nonempty {x:α // x=a})).1
theorem dU{b:Type}(a:b):sl a=a:=(apG (⟨⟨a,rfl⟩⟩: Nonempty {x:b // x=a})).2
theorem JM{b:Type}{P:b->Prop}{a:b}(h:P a):P (sl a):=(dU a).symm▸h
def fj:=U 0
def ag3:=U 0x5f
def agR:=U 0x7265776f6c
def wI:=U 0x2d2b
def agF:=U 0x3436665f
def agB:=U 0x3233665f
def agC:=U 0x2e323366
def agE:=U 0x2e343666
def agN:=U 0x2e3631783869
def agH:=U 0x2e3878363169
def agL:=U 0x2e3478323369
def agM:=U 0x2e3278343669
def agA:=U 0x2e3478323366
def agD:=U 0x2e3278343666
def ag0:=U 0x7461735f636e757274
def u5:=U 0x6465767265736572
def nL:=U 0x3d74657366666f
def mJ:=U 0x3d6e67696c61
def Jz:=U 0x7830
def agz:=U 0x206c61636f6c2065746163696c707564
def qu:=U 0x646e65747865
def ag2:=U 0x206e776f6e6b6e75
def Sz:=U 0x20
def du:=U 0x646e65707061
def nM:=U 0x2065707974206e776f6e6b6e75
def s8:=U 0x65707974206e6f6974636e756620656e696c6e69
def JD:=U 0x706f70
def JE:=U 0x206c61636f6c206e776f6e6b6e75
def zE:=U 0x206c6562616c206e776f6e6b6e75
def DA:=U 0x68746977737472617473
def qr:=U 0x65736f6c63
def zD:=U 0x74696d65
def mK:=U 0x6c24
def JC:=U 0x6d24
def qq:=U 0x35
def dq:=U 0x30
def ko:=U 0x7824
def zF:=U 0x5d
def Sh:=U 0x6464612e323369
def s7:=U 0x31
def Sl:=U 0x6572616c63656420656c75646f6d2074726174732074726f7078652074726f706d692061746164206d656c65206c61626f6c672079726f6d656d20656c626174206e726574786520636e75662074756d2074657366666f206d657469206e656874206c61636f6c20746c75736572206d617261702065707974
def agY:=U 0x74696c7073
def agJ:=U 0x343d6e67696c61203d74657366666f20313d74657366666f206665726e726574786520666572636e7566203436692032336920
def agu:=U 0x343d67696c61
def agK:=U 0x646e616e2e323369
def agQ:=U 0x73706f6f6c
def Se:=U 0x6464612e323366
def Sf:=U 0x74736e6f632e343666
def Sy:=U 0x64616f6c2e38323176
def Sj:=U 0x755f3436665f7461735f636e7572742e343669
def Si:=U 0x3233665f746572707265746e6965722e323369
def Sk:=U 0x74616c70732e3631783869
def JB:=U 0x67656e2e343666
def km:=U 0x7124
def DB:=U 0x7124206c6562616c206e776f6e6b6e75
def JA:=U 0x312d
def zC:=U 0x36393237363934393234
def Su:=U 0x7124206c61636f6c206e776f6e6b6e75
def RT:=U 0x312b
def Sq:=U 0x7124206e6f6974636e7566206e776f6e6b6e75
def Ss:=U 0x7124206c61626f6c67206e776f6e6b6e75
def Sm:=U 0x712420746e656d6765732061746164206e776f6e6b6e75
def wH:=U 0x712420746e656d676573206d656c65206e776f6e6b6e75
def oW:=U 0x712420656c626174206e776f6e6b6e75
def u0:=U 0x33
def u4:=U 0x36
def Dm:=U 0x35393237363934393234
def Jy:=U 0x377830
def Dk:=U 0x39343633383437343132
def agv:=U 0x363932373639343932343d6e67696c61
def agV:=U 0x363932373639343932343d74657366666f
def agS:=U 0x303030305f303030305f3178303d74657366666f
def agw:=U 0x345f3d6e67696c61
def agT:=U 0x78303d74657366666f
def agU:=U 0x305f5f313d74657366666f
def agW:=U 0x783d74657366666f
def Ds:=U 0x343d6e67696c61
def Dz:=U 0x313d74657366666f
def RV:=U 0x393436333834373431322d
def RU:=U 0x383436333834373431322b
def RS:=U 0x3631363135353930373337303434373634343831
def RW:=U 0x393038353737343538363330323733333232392d
def RX:=U 0x383038353737343538363330323733333232392b
def agI:=U 0x313369
def Sv:=U 0x71242065707974206e776f6e6b6e75
def RY:=U 0x3939
def Sw:=U 0x39392065707974206e776f6e6b6e75
def Jx:=U 0x393837363534333231302d2b
def wJ:=U 0x24
def oV:=U 0x61
def wK:=U 0x7a
def Du:=U 0x6224
def Dl:=U 0x32
def Dn:=U 0x34
def Dp:=U 0x37
def Dq:=U 0x38
def Dr:=U 0x39
def Dt:=U 0x62
def Dv:=U 0x63
def Dw:=U 0x64
def Dx:=U 0x65
def Dy:=U 0x66
def RZ:=U 0x41
def R7:=U 0x42
def R8:=U 0x43
def R9:=U 0x44
def Sb:=U 0x45
def Sd:=U 0x46
def ag1:=U 0x343d6e67696c61203d74657366666f20313d74657366666f206665726e726574786520666572636e75662034366920323369206572616c63656420656c75646f6d2074726174732074726f7078652074726f706d692061746164206d656c65206c61626f6c672079726f6d656d20656c626174206e726574786520636e75662074756d2074657366666f206d657469206e656874206c61636f6c20746c75736572206d617261702065707974
def az:Bd:=[(22,[(.int (-1),(.str fD)),(.int (-2),(.str oh)),(.int (-16),(.str yB)),(.int (-17),(.str yC))]),(23,[(.int (-3),(.str yD)),(.int (-4),(.str yE)),(.int (-5),(.str vU))]),(24,[(.int (-16),(.str gc)),(.int (-17),(.str yF))]),(46,[(.int 40,(.tup [.int (-1),.int 4,.int 0])),(.int 41,(.tup [.int (-2),.int 8,.int 0])),(.int 44,(.tup [.int (-1),.int 1,.int 1])),(.int 45,(.tup [.int (-1),.int 1,.int 0])),(.int 46,(.tup [.int (-1),.int 2,.int 1])),(.int 47,(.tup [.int (-1),.int 2,.int 0])),(.int 48,(.tup [.int (-2),.int 1,.int 1])),(.int 49,(.tup [.int (-2),.int 1,.int 0])),(.int 50,(.tup [.int (-2),.int 2,.int 1])),(.int 51,(.tup [.int (-2),.int 2,.int 0])),(.int 52,(.tup [.int (-2),.int 4,.int 1])),(.int 53,(.tup [.int (-2),.int 4,.int 0]))]),(59,[(.int 54,(.tup [.int (-1),.int 4])),(.int 55,(.tup [.int (-2),.int 8])),(.int 58,(.tup [.int (-1),.int 1])),(.int 59,(.tup [.int (-1),.int 2])),(.int 60,(.tup [.int (-2),.int 1])),(.int 61,(.tup [.int (-2),.int 2])),(.int 62,(.tup [.int (-2),.int 4]))]),(67,[(.int 0,(.str gB)),(.int 1,(.str gB)),(.int 2,(.str eM)),(.int 3,(.str eM)),(.int 4,(.str eM)),(.int 5,(.str gB)),(.int 11,(.str gB)),(.int 12,(.str fF)),(.int 13,(.str fF)),(.int 14,(.str dg)),(.int 15,(.str gB)),(.int 16,(.str gc)),(.int 17,(.str mZ)),(.int 18,(.str gc)),(.int 19,(.str mZ)),(.int 26,(.str gB)),(.int 27,(.str gB)),(.int 28,(.str fg)),(.int 32,(.str fR)),(.int 33,(.str fR)),(.int 34,(.str fR)),(.int 35,(.str gC)),(.int 36,(.str gC)),(.int 37,(.str dh)),(.int 38,(.str dh)),(.int 63,(.str fS)),(.int 64,(.str fS)),(.int 65,(.str fD)),(.int 66,(.str oh)),(.int 208,(.str vV)),(.int 209,(.str gB)),(.int 210,(.str gc)),(.int 64520,(.str vW)),(.int 64521,(.str il)),(.int 64522,(.str rm)),(.int 64523,(.str fS)),(.int 64524,(.str rn)),(.int 64525,(.str iC)),(.int 64526,(.str oj)),(.int 64527,(.str dh)),(.int 64528,(.str dh)),(.int 64529,(.str dh))]),(395,[(.int 32,(.str rK)),(.int 65,(.str oq)),(.int 33,(.str GQ)),(.int 34,(.str GR)),(.int 66,(.str Cc)),(.int 2,(.str eM)),(.int 3,(.str j5)),(.int 4,(.str eG)),(.int 5,(.str gp)),(.int 11,(.str cA)),(.int 12,(.str vX)),(.int 13,(.str Cd)),(.int 14,(.str Ce)),(.int 15,(.str OR)),(.int 16,(.str uv)),(.int 17,(.str uw)),(.int 26,(.str OS)),(.int 27,(.str gD)),(.int 28,(.str gD)),(.int 0,(.str GS)),(.int 1,(.str fH)),(.int 18,(.str GU)),(.int 19,(.str GV)),(.int 35,(.str Cf)),(.int 36,(.str Cg)),(.int 37,(.str Ci)),(.int 38,(.str GW)),(.int 40,(.str ux)),(.int 41,(.str GX)),(.int 44,(.str GY)),(.int 45,(.str Cj)),(.int 46,(.str GZ)),(.int 47,(.str G6)),(.int 48,(.str G7)),(.int 49,(.str G8)),(.int 50,(.str G9)),(.int 51,(.str Ha)),(.int 52,(.str Hb)),(.int 53,(.str Hc)),(.int 54,(.str He)),(.int 55,(.str Ck)),(.int 58,(.str Hf)),(.int 59,(.str Hg)),(.int 60,(.str Hh)),(.int 61,(.str Hi)),(.int 62,(.str Hj)),(.int 63,(.str Cm)),(.int 64,(.str Hk)),(.int 167,(.str Hl)),(.int 172,(.str Hm)),(.int 173,(.str Hn)),(.int 192,(.str Ho)),(.int 193,(.str Hp)),(.int 194,(.str Hq)),(.int 195,(.str Hr)),(.int 196,(.str Ht)),(.int 208,(.str uy)),(.int 209,(.str Hu)),(.int 210,(.str Hv)),(.int 64520,(.str Cn)),(.int 64521,(.str Cq)),(.int 64522,(.str Cr)),(.int 64523,(.str Hw)),(.int 64524,(.str pZ)),(.int 64525,(.str Cs)),(.int 64526,(.str uz)),(.int 64527,(.str Hx)),(.int 64528,(.str Ct)),(.int 64529,(.str Hy))]),(416,[(.str gc,(.str gc)),(.str gC,(.str gC)),(.str il,(.str il)),(.str iC,(.str iC)),(.str vW,(.str il))]),(708,[(.str ej,(.str ej)),(.str gc,(.str O2)),(.str dh,(.str dh)),(.str fS,(.str fS)),(.str gC,(.str gC)),(.str iC,(.str O3)),(.str il,(.str O4))])]
noncomputable def eB:List Nat:=[144,164,183]
noncomputable def iV:List Nat:=[202,230,355,501,522,695,770]
def nq:List (Str×Int):=[(RT,1),(RU,2147483648),(RX,9223372036854775808),(JA,(-1)),(RV,(-2147483649)),(RW,(-9223372036854775809)),(dq,0),(Cy,123456789),(s7,1),(RS,18446744073709551616),(Dl,2),(Dk,2147483649),(u0,3),(Dn,4),(Dm,4294967295),(zC,4294967296),(qq,5),(u4,6),(Dp,7),(Dq,8),(Dr,9),(RY,99)]
def aJ:Tb:=⟨az,[(dq,dq),(s7,s7),(Dl,Dl),(u0,u0),(Dn,Dn),(qq,qq),(u4,u4),(Dp,Dp),(Dq,Dq),(Dr,Dr),(oV,oV),(Dt,Dt),(Dv,Dv),(Dw,Dw),(Dx,Dx),(Dy,Dy),(RZ,oV),(R7,Dt),(R8,Dv),(R9,Dw),(Sb,Dx),(Sd,Dy)],[(dq,0),(s7,1),(Dl,2),(u0,3),(Dn,4),(qq,5),(u4,6),(Dp,7),(Dq,8),(Dr,9),(oV,10),(Dt,11),(Dv,12),(Dw,13),(Dx,14),(Dy,15),(RZ,16),(R7,17),(R8,18),(R9,19),(Sb,20),(Sd,21)],yV,[(ag1,[ej,gq,fh,fR,iG,l9,yN,HA,gc,yF,dh,fS,gC,iC,il,HB,HC,HD,HE,HF,fD,oh,yB,yC,Dz,nL,Ds])]⟩
noncomputable def Ou:O:=(.tup [.tup [.int 69,.int 69,.tup [.int (-1)],.tup [.int (-1)]],.tup [.int 70,.int 79,.tup [.int (-1),.int (-1)],.tup [.int (-1)]],.tup [.int 80,.int 80,.tup [.int (-2)],.tup [.int (-1)]],.tup [.int 81,.int 90,.tup [.int (-2),.int (-2)],.tup [.int (-1)]],.tup [.int 103,.int 105,.tup [.int (-1)],.tup [.int (-1)]],.tup [.int 106,.int 120,.tup [.int (-1),.int (-1)],.tup [.int (-1)]],.tup [.int 121,.int 123,.tup [.int (-2)],.tup [.int (-2)]],.tup [.int 124,.int 138,.tup [.int (-2),.int (-2)],.tup [.int (-2)]],.tup [.int 167,.int 167,.tup [.int (-2)],.tup [.int (-1)]],.tup [.int 172,.int 173,.tup [.int (-1)],.tup [.int (-2)]],.tup [.int 192,.int 193,.tup [.int (-1)],.tup [.int (-1)]],.tup [.int 194,.int 196,.tup [.int (-2)],.tup [.int (-2)]]])
def Ow:O:=(.tup [.tup [.int 69,.str Ca,.tup [.str Gh,.str Gi,.str Gj,.str Gk,.str Gl,.str Gm,.str Gn,.str Gp,.str Gq,.str Gs,.str Gu]],.tup [.int 80,.str Cb,.tup [.str Gh,.str Gi,.str Gj,.str Gk,.str Gl,.str Gm,.str Gn,.str Gp,.str Gq,.str Gs,.str Gu]],.tup [.int 103,.str Ca,.tup [.str Gv,.str Gw,.str Gx,.str Gy,.str Gz,.str GA,.str GB,.str GD,.str GF,.str GG,.str GH,.str GI,.str GJ,.str GK,.str GL,.str GN,.str GO,.str GP]],.tup [.int 121,.str Cb,.tup [.str Gv,.str Gw,.str Gx,.str Gy,.str Gz,.str GA,.str GB,.str GD,.str GF,.str GG,.str GH,.str GI,.str GJ,.str GK,.str GL,.str GN,.str GO,.str GP]]])
def Ov:O:=(.tup [.str ej,.str gq,.str fh,.str fR,.str iG,.str gp,.str cA,.str l9,.str yN,.str HA,.str gc,.str yF,.str dh,.str fS,.str gC,.str iC,.str il,.str HB,.str HC,.str HD,.str HE,.str HF,.str fD,.str oh,.str yB,.str yC])
def FC:O:=(.tup [.str ej,.str gc,.str dh,.str fS,.str gC,.str iC,.str il])
def yw:O:=(.tup [.str eM,.str j5,.str eG])
def Ez:SM:=(ak (jt az (.nm 1) (aL (.gl 22)) (aY (aF bf (ao (aN az) (aL (.gl 22)) ay) ai) (aV ay) bh)) (aV (aL .none)))
@[irreducible] def BK:Fn:=sl (bl 1 [] 1 Ez)
def Ew:SM:=(aV (Ks az ai (aL (.gl 23))))
@[irreducible] def yl:Fn:=sl (bl 1 [] 0 Ew)
def AO:SM:=(ak (jt az (.nm 1) (aL (.gl 24)) (aY (aF bf (ao (aN az) (aL (.gl 24)) ay) ai) (aV ay) bh)) (aV (aL .none)))
@[irreducible] def vM:Fn:=sl (bl 1 [] 1 AO)
def Mp:SM:=(ak (jt az (.tp [1,2,3,4]) (aL Ou) (aY (qE iW iW ay ai aB) (aV (au [aW,bq])) bh)) (aV (aL .none)))
def N5:Fn:=bl 1 [] 4 Mp
def Eu:SM:=(ak (aY (aF (cI az) ai (aL (.gl 67))) (aV (ao (aN az) (aL (.gl 67)) ai)) bh) (ak (aY (fA (aF (cI az) ai (aL (.gl 46))) (fA (aF (cI az) ai (aL (.gl 59))) lN)) (aV (J m9)) bh) (aV (cS (aF kj (aA N5 [ai]) (aL .none)) (aL .none) (J gB)))))
@[irreducible] def BH:Fn:=sl (bl 1 [] 0 Eu)
def ED:SM:=(ak (bA 1 (cS (aF (cI az) ai (aL (.gl 46))) (ao (aN az) (ao (aN az) (aL (.gl 46)) ai) (ah 1)) (ao (aN az) (ao (aN az) (aL (.gl 59)) ai) (ah 1)))) (aV (Kl [(1,0),(2,1),(4,2),(8,3)] ay)))
@[irreducible] def BR:Fn:=sl (bl 1 [] 1 ED)
def Mb:SM:=(ak (ba (Kn eB [ai,ay])) (cW iR [] [144,164,183] ai ay))
@[irreducible] def ub:Fn:=sl (bl 2 [] 0 Mb)
abbrev art:=ak (cW cZ [202,230,355] [164] ai aB) (cW df [202,230,355] [164] ai aW)
def Ln:SM:=(ak (ba (aA ub [ai,ay])) art)
@[irreducible] def Bl:Fn:=sl (bl 4 [] 0 Ln)
def L6:SM:=(ak (ba (aA ub [ai,ay])) (cW cg [355,522] [183] ai aB))
@[irreducible] def BD:Fn:=sl (bl 3 [] 0 L6)
@[irreducible] def hJ:Fn:=sl (Ab 164 Bl)
@[irreducible] def vz:Fn:=sl (Ab 183 BD)
def Ma:SM:=(ak (cW eC [202] [] ai ay) (ak (cW b9 [202] [] ai aB) (ak (cW lA [202] [] ai aW) (ak (cW cZ [202,230,355] [164] ai bq) (cW df [202,230,355] [164] ai bz)))))
@[irreducible] def BG:Fn:=sl (bl 6 [] 0 Ma)
@[irreducible] def pB:Fn:=sl (xr (nT 202 BG))
abbrev arU:=cW bY [230,355,522] [] ai ay
def LN:SM:=(ak arU art)
@[irreducible] def By:Fn:=sl (bl 4 [] 0 LN)
@[irreducible] def vw:Fn:=sl (xr (nT 230 By))
abbrev arl:=aw bY [230,355,522] [] ai
def LM:SM:=(ak (bA 1 (cS (aF mC (b7 arl) (ah 0)) (ao (aN az) arl (ah 0)) (aL .none))) (aV (cS (cQ (cq (ju iV ay (aL (.gl 202)))) (cQ (aF bf (aw eC [202] [] ay) (J gF)) fX)) (aw b9 [202] [] ay) (J fj))))
@[irreducible] def vI:Fn:=sl (bl 1 [] 1 LM)
abbrev ar8:=ju iV ai (aL (.gl 230))
abbrev ar5:=aM aJ j0 [(230,vI)] ai []
def Mh:SM:=(aV (qD ar8 (nZ (gv kj ay (aL .none)) (gv bf ar5 ay))))
@[irreducible] def BJ:Fn:=sl (bl 2 [.none] 0 Mh)
def Mi:SM:=(aV (qD (ju iV ai (aL (.gl 202))) (qD (gv bf (aw eC [202] [] ai) ay) (nZ (gv kj aB (aL .none)) (gv bf (aw b9 [202] [] ai) aB)))))
@[irreducible] def lr:Fn:=sl (bl 3 [.none] 0 Mi)
def LS:SM:=(ak arU (ak (cW cg [355,522] [183] ai (ah 0)) art))
@[irreducible] def BA:Fn:=sl (bl 4 [] 0 LS)
@[irreducible] def vx:Fn:=sl (nT 355 BA)
abbrev arG:=aw cg [355,522] [183] ai
def LV:SM:=(aV (gv bf arG (b7 arl)))
@[irreducible] def t7:Fn:=sl (bl 1 [] 0 LV)
abbrev arQ:=cq (aM aJ mf [(355,t7)] ai [])
def LR:SM:=(aV (cS arQ (aL .none) (ao (aN az) arl arG)))
@[irreducible] def tZ:Fn:=sl (bl 1 [] 0 LR)
abbrev ar4:=aM aJ mh [(355,tZ)] ai []
def LU:SM:=(aV (aA BJ [ar4,ay]))
@[irreducible] def t6:Fn:=sl (bl 2 [.none] 0 LU)
def LW:SM:=(aV (aA lr [ar4,ay,aB]))
@[irreducible] def yi:Fn:=sl (bl 3 [.none] 0 LW)
abbrev arX:=aw cZ [202,230,355] [164] aB
abbrev arV:=aw df [202,230,355] [164] aB
abbrev arp:=aw df [202,230,355] [164] ai
abbrev arn:=aw cZ [202,230,355] [164] ai
def LQ:SM:=(ak (bA 2 ar4) (ak (aY (aF kj aB (aL .none)) (gN eB (aA hJ [ay,arn,arp])) bh) (gN eB (aA hJ [ay,arX,arV]))))
@[irreducible] def yh:Fn:=sl (bl 2 [.str aq] 1 LQ)
def LY:SM:=(ak (aY arQ (ba (aM aJ pY [(355,yh)] ai [])) bh) (ak (cW cg [355,522] [183] ai (ao aX arG (ah 1))) (aV (ao (aN az) arl (ao jN arG (ah 1))))))
@[irreducible] def lq:Fn:=sl (bl 1 [] 0 LY)
abbrev asy:=cq (aM aJ jD [(355,yi)] ai [J je])
abbrev asm:=aM aJ iF [(355,lq)] ai []
def LZ:SM:=(aV (cS asy asm (aL .none)))
@[irreducible] def BB:Fn:=sl (bl 1 [] 0 LZ)
def LX:SM:=(ak (bA 1 (fB arl arG (aL .none) (aL .none))) (ak (cW cg [355,522] [183] ai (b7 arl)) (aV ay)))
@[irreducible] def t8:Fn:=sl (bl 1 [] 1 LX)
def L4:SM:=(aY (jv arQ) (ba (aM aJ pY [(355,yh)] ai [])) bh)
@[irreducible] def t9:Fn:=sl (bl 1 [] 0 L4)
abbrev asB:=fB arl (ah 1) (aL .none) (aL .none)
def Mw:SM:=(aV (aA vx [asB,arn,arp]))
@[irreducible] def qY:Fn:=sl (bl 1 [] 0 Mw)
def Mx:SM:=(ak (d8 [2,3,4] (au [cS (aF bf ay (ah 16)) (J yV) (J Cy),ah 0,aL (.bool UA)])) (ak (jt az (.nm 5) ai (aY (aF bf bz (J ag3)) (ak (aY (jv (cq bq)) (aV (aL .none)) bh) (bA 4 (aL (.bool UA)))) (aY (aF (cI az) bz aB) (ak (bA 3 (ao aX (ao qi aW ay) (aM aJ eH [] (J yV) [aM aJ agR [] bz []]))) (bA 4 (aL (.bool W)))) (aV (aL .none))))) (aV (cS (cq bq) aW (aL .none)))))
def uf:Fn:=bl 2 [] 4 Mx
abbrev arT:=aF (cI az) (ao (aN az) (aw b9 [202] [] ai) (ah 0)) (J wI)
def Mg:SM:=(ak (aY (jv (cq (aA lr [ai,J jG]))) (gN eB (aA hJ [J aq,arn,arp])) bh) (ak (bA 2 (ao C7 (ah 1) (ao jN ay (ah 1)))) (ak (bA 3 (cS arT aB (ao qi (ah 2) aB))) (ak (aY (jv (qE iW eL (Un iX aB) (aw lA [202] [] ai) aW)) (gN eB (aA hJ [J jF,arn,arp])) bh) (aV (cS (aF kh (aw lA [202] [] ai) aB) (ao jN (aw lA [202] [] ai) (ao qi (ah 2) aB)) (aw lA [202] [] ai)))))))
@[irreducible] def BI:Fn:=sl (bl 2 [] 2 Mg)
def Mu:SM:=(ak (aY (fA (jv (cq (aA lr [ai,J jG]))) (fA arT lN)) (gN eB (aA hJ [J aq,arn,arp])) bh) (ak (aY (aF kh (aw lA [202] [] ai) (ao nG (ah 2) (ah 32))) (gN eB (aA hJ [J iU,arn,arp])) bh) (aV (aw lA [202] [] ai))))
@[irreducible] def vP:Fn:=sl (bl 1 [] 0 Mu)
abbrev asE:=fB ai (aL .none) (ah 4) (aL .none)
abbrev asC:=fB ai (ah 4) (aL .none) (aL .none)
def Es:SM:=(ak (jt az (.tp [1,2,3]) (aL Ow) (aY (cQ (aF bf asE aB) (cQ (aF (cI az) asC aW) fX)) (aV (ao aX ay (aM aJ eH [] aW [asC]))) bh)) (ak (jt az (.nm 4) (aL (.gl 395)) (aY (cQ (aF bf (ao (aN az) (aL (.gl 395)) bq) ai) (cQ (aF dk bq (ah 28)) fX)) (aV bq) bh)) (aV (aL .none))))
@[irreducible] def vJ:Fn:=sl (bl 1 [] 4 Es)
abbrev asD:=fB ai (aL .none) (ah 6) (aL .none)
def Ex:SM:=(ak (aY (fA (aF (cI az) asE (au [J agC,J agE,J vU])) (fA (aF (cI az) (J agB) ai) (fA (aF (cI az) (J agF) ai) lN))) (aV (aL (.bool W))) bh) (aV (nZ (gv (cI az) asD (au [J agN,J agH,J agL,J agM,J agA,J agD])) (gv (cI az) (J ag0) ai))))
@[irreducible] def ym:Fn:=sl (bl 1 [] 0 Ex)
abbrev arW:=aw cZ [202,230,355] [164] ay
def Mr:SM:=(ak (aY (cQ (aF bf ai (J aq)) (cQ (jv (cq (ju iV ay (aL (.gl 230))))) (cQ (aF bf (aw eC [202] [] ay) (J u5)) fX))) (gN eB (aA hJ [J eN,arW,aw df [202,230,355] [164] ay])) bh) (gN eB (aA hJ [ai,arW,aw df [202,230,355] [164] ay])))
@[irreducible] def eg:Fn:=sl (bl 2 [] 0 Mr)
def Me:SM:=(aV (cS (cq ar8) ar5 (J fj)))
@[irreducible] def n7:Fn:=sl (bl 1 [] 0 Me)
def Ey:SM:=(aV (nZ (gv (cI az) ai (aL Ov)) (nZ (gv bf (fB ai (aL .none) (ah 7) (aL .none)) (J nL)) (gv bf asD (J mJ)))))
@[irreducible] def yn:Fn:=sl (bl 1 [] 0 Ey)
def Mv:SM:=(ak (aY (fA (cq ar8) (fA (aF dk (aw eC [202] [] ai) (J gF)) lN)) (ba (aA eg [J aq,ai])) bh) (ak (aY (cq (aA yl [aw b9 [202] [] ai])) (gN eB (aA vz [aw b9 [202] [] ai,arn])) bh) (ak (bA 1 (aA BK [aw b9 [202] [] ai])) (ak (aY (aF kj ay (aL .none)) (ba (aA eg [J aq,ai])) bh) (aV ay)))))
@[irreducible] def lZ:Fn:=sl (bl 1 [] 1 Mv)
def Mj:SM:=(aV (gw (iQ asB) [] (aA lZ [ai]) []))
@[irreducible] def uc:Fn:=sl (bl 1 [] 0 Mj)
abbrev asF:=aw eC [202] [] (ao (aN az) ai ay)
abbrev asx:=ju iV (ao (aN az) ai ay) (aL (.gl 230))
def Md:SM:=(aV (qD (gv eL ay (b7 ai)) (qD (Ea asx) (gv (cI az) asF (au [J jG,J je])))))
@[irreducible] def kK:Fn:=sl (bl 2 [] 0 Md)
def Mf:SM:=(ak (aY (jv (cq (aA kK [ai,ay]))) (ba (aA eg [J aq,cS (aF eL ay (b7 ai)) (ao (aN az) ai ay) aB])) bh) (aV (ao (aN az) ai ay)))
@[irreducible] def vN:Fn:=sl (bl 3 [] 0 Mf)
def My:SM:=(ak (aY (fA (aF kh ay (b7 ai)) (fA (cq asx) (fA (aF dk asF (J gF)) lN))) (aV (J fj)) bh) (aV (aw b9 [202] [] (ao (aN az) ai ay))))
@[irreducible] def pO:Fn:=sl (bl 2 [] 0 My)
abbrev arh:=cS (aF bf (fB ai (aL .none) (ah 2) (aL .none)) (J Jz)) (aA uf [fB ai (ah 2) (aL .none) (aL .none),ah 16]) (aA uf [ai,ah 10])
def Et:SM:=(ak (bA 2 arh) (ak (aY (aF kj aB (aL .none)) (ba (aA eg [J eN,ay])) bh) (ak (aY (aF mC aB (ah 4294967295)) (ba (aA eg [J iU,ay])) bh) (aV aB))))
@[irreducible] def vL:Fn:=sl (bl 2 [] 1 Et)
abbrev ar1:=aF dk (ao nG (ah 2) aB) ai
abbrev ar0:=aF eL (ao nG (ah 2) aB) ai
abbrev arN:=bA 2 (ao aX aB (ah 1))
def Mc:SM:=(ak (bA 2 (ah 0)) (ak (gm ar0 arN) (ak (aY ar1 (ba (aA eg [J ng,ay])) bh) (aV aB))))
@[irreducible] def yk:Fn:=sl (bl 2 [] 1 Mc)
def L5:SM:=(ak (cW kP [501] [] ai ay) (ak (cW gF [501] [] ai aB) (ak (cW fG [501] [] ai aW) (cW p4 [501] [] ai (aL (.bool UA))))))
@[irreducible] def BC:Fn:=sl (bl 4 [] 0 L5)
@[irreducible] def vy:Fn:=sl (nT 501 BC)
def LP:SM:=(ak arU (ak (cW cg [355,522] [183] ai aB) (ak (cW p5 [522] [] ai aW) (cW ml [522] [] ai (aL .none)))))
@[irreducible] def Bz:Fn:=sl (bl 4 [] 0 LP)
@[irreducible] def EO:Fn:=sl (nT 522 Bz)
def Ms:SM:=(aV (au [J jE,aA EO [ai,ay,aB]]))
@[irreducible] def jY:Fn:=sl (bl 3 [] 0 Ms)
abbrev arS:=aV (gw (iQ (aM aJ mj [(355,t8)] aW [])) [] (aA lZ [ai]) [])
def Mk:SM:=(ak (bA 3 (aA qY [ai])) (ak (bA 4 (aM aJ rF [(355,BB)] aW [])) (ak (aY (aF kj bq (aL .none)) arS bh) (ak (aY (aF Jj ay (aL .none)) (ak (aY (aF (cI az) (aw b9 [202] [] bq) ay) (gN eB (aA hJ [ao aX (J agz) (aw b9 [202] [] bq),aw cZ [202,230,355] [164] bq,aw df [202,230,355] [164] bq])) bh) (qJ ay (aw b9 [202] [] bq) aB)) bh) (ak (bA 5 (aA lZ [aM aJ iF [(355,lq)] aW []])) (ak (ba (aM aJ m5 [(355,t9)] aW [])) (aV (ar [bz]))))))))
@[irreducible] def BL:Fn:=sl (bl 3 [] 3 Mk)
abbrev arq:=gm (cq (aM aJ iD [(355,t6)] ai [J fh])) (ba (aM aJ qu [] aW [gw (iQ (aM aJ mj [(355,t8)] (aA qY [asm]) [])) [] (aA lZ [ai]) []]))
def Mt:SM:=(ak (d8 [2,3] (au [gj [],gj []])) (ak (gm (cq (aM aJ iD [(355,t6)] ai [J gq])) (ba (aM aJ qu [] aB [aA BL [asm,ay,b7 aB]]))) (ak arq (aV (au [ku aB,ku aW])))))
@[irreducible] def yq:Fn:=sl (bl 2 [] 2 Mt)
def Er:SM:=(ak (cW iS [770] [] ai (pf [])) (ak (cW mn [770] [] ai (pf [])) (ak (cW fg [770] [] ai (gj [])) (jt az (.nm 1) (aL FC) (ak (qJ (aw iS [770] [] ai) ay (pf [])) (qJ (aw mn [770] [] ai) ay (ah 0)))))))
@[irreducible] def BE:Fn:=sl (bl 1 [] 1 Er)
@[irreducible] def xM:Fn:=sl (nT 770 BE)
abbrev arM:=ao (aN az) (aw iS [770] [] ai) ay
def L7:SM:=(ak (aY (jv (cq (aA lr [aB,J je]))) (aV (aA vP [aB])) bh) (ak (aY (aF wA (aw b9 [202] [] aB) arM) (gN eB (aA hJ [ao aX (ao aX (ao aX (J ag2) (ao (aN az) (aL (.gl 708)) ay)) (J Sz)) (aw b9 [202] [] aB),arX,arV])) bh) (aV (ao (aN az) arM (aw b9 [202] [] aB)))))
@[irreducible] def kJ:Fn:=sl (bl 3 [] 0 L7)
abbrev asq:=b7 (aw fg [770] [] ai)
def L8:SM:=(ak (xn (.tp [2,3]) (aw fg [770] [] ai) (aY (aF bf aW ay) (aV aB) bh)) (ak (ba (aM aJ du [] (aw fg [770] [] ai) [ay])) (ak (qJ (aw mn [770] [] ai) (J ej) asq) (aV (ao jN asq (ah 1))))))
@[irreducible] def yj:Fn:=sl (bl 2 [] 2 L8)
abbrev asn:=aw cg [355,522] [183] bz
abbrev ard:=ak (bA 9 (aA yq [bz,bZ])) (ak (aY (aF kj eV (aL .none)) (aV (au [aM aJ sa [(770,yj)] ai [iH],bZ,asn])) bh) (ak (aY (aF dk iH (au [au [],au []])) (ak (aY (aF kh eV asq) (gN eB (aA hJ [ao aX (J nM) (Au eV),aW,bq])) bh) (aY (aF dk (ao (aN az) (aw fg [770] [] ai) eV) iH) (gN eB (aA hJ [J s8,aW,bq])) bh)) bh) (aV (au [eV,bZ,asn]))))
def L9:SM:=(ak (d8 [3,4] (cS (aF eL aB (b7 ay)) (au [aw cZ [202,230,355] [164] (ao (aN az) ay aB),aw df [202,230,355] [164] (ao (aN az) ay aB)]) (au [ah 0,ah 0]))) (ak (d8 [5,6,7] (au [aA vx [ay,aW,bq],pf [],aL .none])) (ak (cW cg [355,522] [183] bz aB) (ak (aY (cq (aM aJ iD [(355,t6)] bz [J ej])) (ak (bA 8 (aA qY [aM aJ iF [(355,lq)] bz []])) (ak (bA 7 (aM aJ eH [(770,kJ)] ai [J ej,aM aJ iF [(355,lq)] hU []])) (ba (aM aJ m5 [(355,t9)] hU [])))) bh) ard))))
@[irreducible] def BF:Fn:=sl (bl 3 [] 7 L9)
def Lv:SM:=(ak (cW dR [695] [] ai ay) (ak (cW fJ [695] [] ai aB) (ak (cW fK [695] [] ai (gj [])) (ak (cW dg [695] [] ai (gj [])) (cW iw [695] [] ai (gj []))))))
@[irreducible] def Bp:Fn:=sl (bl 3 [] 0 Lv)
@[irreducible] def xK:Fn:=sl (nT 695 Bp)
def LD:SM:=(ak (ba (aM aJ du [] (aw fK [695] [] ai) [ay])) (ba (aM aJ du [] (aw dg [695] [] ai) [aB])))
@[irreducible] def vH:Fn:=sl (bl 3 [] 0 LD)
abbrev arY:=ba (aM aJ du [] (aw fK [695] [] ai) [au [ah 11]])
def Lp:SM:=(ak (ba (aM aJ JD [] (aw dg [695] [] ai) [])) arY)
@[irreducible] def vE:Fn:=sl (bl 1 [] 0 Lp)
abbrev ar7:=au [aA vy [J fj,aw b9 [202] [] ay,ay],aW]
abbrev aso:=aw b9 [202] [] (ao (aN az) aB aW)
def Lz:SM:=(ak (aY (cQ (aF eL aW (b7 aB)) (cQ (jv (cq (ju iV (ao (aN az) aB aW) (aL (.gl 230))))) (cQ (aF bf (aw eC [202] [] (ao (aN az) aB aW)) (J je)) fX))) (aV (au [aA vy [aso,aw b9 [202] [] ay,ay],ao aX aW (ah 1)])) bh) (aV ar7))
@[irreducible] def vG:Fn:=sl (bl 4 [] 0 Lz)
def LL:SM:=(ak (d8 [3,4,5] (aM aJ uG [(770,BF)] (aw dR [695] [] ai) [ay,aB])) (ak (aY (aF mC (b7 bq) (ah 0)) (ba (aA eg [J aq,ao (aN az) ay aB])) bh) (aV (au [aW,bz]))))
@[irreducible] def pM:Fn:=sl (bl 3 [] 3 LL)
abbrev aro:=ak (aY (cQ (jv (cq bz)) (cQ (aF eL (b7 bq) (ah 2)) fX)) (aV (au [cS (aF bf (b7 bq) (ah 1)) (ao (aN az) bq (ah 0)) (aL (.int (-64))),aW])) bh) (aV (aM aJ lB [(695,pM)] ai [ay,aB]))
abbrev asl:=bA 3 (ao aX aW (ah 1))
def Lo:SM:=(ak (d8 [3,4,5,6] (au [aB,gj [],aL (.bool UA),aL (.bool UA)])) (ak (gm (aF eL aW (b7 ay)) (ak (bA 7 (aA n7 [ao (aN az) ay aW])) (ak (aY (aF bf eV (J fh)) (ak (ba (aM aJ qu [] bq [aA uc [ao (aN az) ay aW]])) (bA 6 (aL (.bool W)))) (aY (fA (cQ (aF bf eV (J ej)) (cQ (aF bf aW aB) fX)) (fA (cQ (aF bf eV (J gq)) (cQ (jv (cq bZ)) fX)) lN)) (bA 5 (nZ bz (nZ (gv bf eV (J ej)) (gv mC (b7 (aw bY [230,355,522] [] (ao (aN az) ay aW))) (ah 1))))) xi)) asl))) aro))
@[irreducible] def vD:Fn:=sl (bl 3 [] 5 Lo)
abbrev arP:=aY (aF bf (aw eC [202] [] ay) (J jG)) (aV (aA vP [ay])) bh
def LA:SM:=(ak arP (ak (aY (aF wA (aw b9 [202] [] ay) (aw fJ [695] [] ai)) (ba (aA eg [ao aX (J JE) (aw b9 [202] [] ay),ay])) bh) (aV (ao (aN az) (aw fJ [695] [] ai) (aw b9 [202] [] ay)))))
@[irreducible] def Br:Fn:=sl (bl 2 [] 0 LA)
abbrev ar3:=ba (aA eg [ao aX (J zE) (aw b9 [202] [] ay),ay])
abbrev ash:=b7 (aw dg [695] [] ai)
abbrev arj:=aF bf (aw kP [501] [] (ao (aN az) (aw dg [695] [] ai) (ao jN (ao jN ash (ah 1)) aB))) (aw b9 [202] [] ay)
def Ly:SM:=(ak arP (ak (xo (.nm 2) ash (aY arj (aV aB) bh)) ar3))
@[irreducible] def vF:Fn:=sl (bl 2 [] 1 Ly)
def Lu:SM:=(aV (au [aM aJ eH [(770,kJ)] (aw dR [695] [] ai) [ay,aA vN [aW,bq,aB]],ao aX bq (ah 1)]))
@[irreducible] def mY:Fn:=sl (bl 5 [] 0 Lu)
abbrev ase:=d8 [7,5] (aM aJ lB [(695,pM)] ai [bq,bz])
abbrev asb:=bA 5 (ao aX bz (ah 1))
abbrev arL:=ba (aM aJ du [] iH [aM aJ fF [(695,vF)] ai [ao (aN az) bq bz]])
abbrev arF:=cQ (aF bf aB (J dg)) (cQ (cq (aA kK [bq,bz])) fX)
abbrev ary:=aV (au [ku (ao aX (ar [ay]) iH),bz])
def Lw:SM:=(ak (aY (aF bf aB (J mZ)) (ak (bA 6 (ah 0)) (ak (aY (cq (aA kK [bq,bz])) (d8 [6,5] (aM aJ eH [(770,kJ),(695,mY)] ai [J dh,aW,bq,bz])) bh) (ak ase (aV (au [au [ay,eV,bZ],bz]))))) bh) (ak (bA 8 (aA vN [bq,bz,aW])) (ak (aY (aF bf aB (J fR)) (aV (au [au [ay,aM aJ fR [(695,Br)] ai [hU]],ao aX bz (ah 1)])) bh) (ak (bA 9 (gj [aM aJ fF [(695,vF)] ai [hU]])) (ak asb (ak (gm arF (ak arL asb)) ary))))))
@[irreducible] def Bq:Fn:=sl (bl 6 [] 4 Lw)
abbrev asr:=cS (aF dk bZ (ar [])) eV (ar [ah 0,ah 0])
abbrev arC:=aV (au [ku (ao aX (ar [ay]) asr),ao aX bz (b7 bZ)])
abbrev arz:=ba (aM aJ du [] bZ [ao (aN az) bq (ao aX bz (b7 bZ))])
abbrev arx:=aM aJ eH [(770,kJ),(695,mY)] (aw dR [695] [] ay) [J dh,ai]
abbrev aru:=cQ (aF eL (b7 bZ) (ah 2)) (cQ (cq (aA kK [bq,ao aX bz (b7 bZ)])) fX)
def LC:SM:=(ak (bA 6 (gj [])) (ak (gm aru arz) (ak (aY (aF bf aB (J dh)) (ak (aY (aF bf bZ (ar [])) (aV (au [au [ay,ah 0],bz])) bh) (aV (au [au [ay,aM aJ eH [(770,kJ),(695,mY)] (aw dR [695] [] ai) [J dh,ao (aN az) bZ (ah 0)]],ao aX bz (ah 1)]))) bh) (ak (aY (aF bf aB (J oj)) (ak (aY (aF bf (b7 bZ) (ah 1)) (ba (aA eg [J aq,ao (aN az) bZ (ah 0)])) bh) (ak (bA 7 (tm bZ [0] arx)) arC)) bh) (ak (bA 8 (aA vN [bq,bz,aW])) (ak (bA 9 (cS (aF bf (b7 bZ) (ah 2)) (aM aJ eH [(770,kJ),(695,mY)] (aw dR [695] [] ai) [J dh,hU]) (ah 0))) (aV (au [au [ay,aM aJ eH [(770,kJ),(695,mY)] (aw dR [695] [] ai) [J iC,ao (aN az) bZ (Un iX (ah 1))],iH],ao aX bz (b7 bZ)]))))))))
@[irreducible] def Bt:Fn:=sl (bl 6 [] 4 LC)
abbrev ari:=ak (aY (cq (aM aJ DA [] (aA pO [aB,aW]) [J mJ])) (ak (bA 5 (aA yk [aA vL [fB aso (ah 6) (aL .none) (aL .none),ao (aN az) aB aW],ao (aN az) aB aW])) asl) bh) (aV (au [au [ay,bz,bq],aW]))
def LB:SM:=(ak (d8 [4,5] (au [ah 0,aA BR [ay]])) (ak (aY (cq (aM aJ DA [] (aA pO [aB,aW]) [J nL])) (ak (bA 4 (aA vL [fB aso (ah 7) (aL .none) (aL .none),ao (aN az) aB aW])) asl) bh) ari))
@[irreducible] def Bs:Fn:=sl (bl 4 [] 2 LB)
abbrev arH:=ba (aA eg [J aq,ao (aN az) bq bz])
abbrev asz:=cS (aF bf aB (J fD)) (ah 32) (ah 64)
def Lq:SM:=(ak (aY (fA (aF kh bz (b7 bq)) (fA (cq (ju iV (ao (aN az) bq bz) (aL (.gl 230)))) lN)) (ba (aA eg [J aq,cS (aF eL bz (b7 bq)) (ao (aN az) bq bz) aW])) bh) (ak (aY (aF bf aB (J vV)) (ak (bA 6 (aA vM [aA pO [bq,bz]])) (ak (aY (aF kj bZ (aL .none)) arH bh) (aV (au [au [ay,bZ],ao aX bz (ah 1)])))) bh) (ak (aY (aF dk (aw eC [202] [] (ao (aN az) bq bz)) (J jG)) arH bh) (aV (au [au [ay,aA BI [ao (aN az) bq bz,asz]],ao aX bz (ah 1)])))))
@[irreducible] def Bn:Fn:=sl (bl 6 [] 1 Lq)
abbrev asd:=aV (au [ku (ao aX (ar [ah 28]) aW),aB])
def LJ:SM:=(ak (d8 [3,4] (au [gj [],aL (.bool UA)])) (ak (gm (cQ (aF eL aB (b7 ay)) (cQ (aF bf (aA n7 [ao (aN az) ay aB]) (J fh)) fX)) (ak (ba (aM aJ qu [] aW [aA uc [ao (aN az) ay aB]])) (ak (bA 4 (aL (.bool W))) arN))) (ak (aY (cq bq) asd bh) (aV (au [au [ah 27],aB])))))
@[irreducible] def Bw:Fn:=sl (bl 3 [] 2 LJ)
abbrev asa:=ba (aA eg [J aq,ay])
def Lx:SM:=(ak (aY (aF bf (aw b9 [202] [] ay) (J gD)) (aV (aM aJ gD [(695,Bw)] ai [aB,aW])) bh) (ak (aY (cq (aA yn [aw b9 [202] [] ay])) asa bh) (ak (bA 4 (aA vJ [aw b9 [202] [] ay])) (ak (aY (aF kj bq (aL .none)) (ak (aY (cq (aA ym [aw b9 [202] [] ay])) (gN eB (aA vz [aw b9 [202] [] ay,arW])) bh) (ba (aA eg [J eN,ay]))) bh) (ak (bA 5 (aA BH [bq])) (ak (aY (aF (cI az) bz (au [J gB,J fS,J rm])) (aV (au [au [bq],aW])) bh) (ak (aY (aF (cI az) bz (aL (.gl 416))) (ak (d8 [6,3] (aM aJ eH [(770,kJ),(695,mY)] ai [ao (aN az) (aL (.gl 416)) bz,ay,aB,aW])) (aV (au [au [bq,bZ],aW]))) bh) (ak (aY (aF (cI az) bz (au [J fR,J fF,J dg,J mZ])) (aV (aM aJ ow [(695,Bq)] ai [bq,bz,ay,aB,aW])) bh) (ak (aY (aF (cI az) bz (au [J dh,J rn,J oj])) (aV (aM aJ uE [(695,Bt)] ai [bq,bz,ay,aB,aW])) bh) (ak (aY (aF bf bz (J m9)) (aV (aM aJ m9 [(695,Bs)] ai [bq,aB,aW])) bh) (aV (aM aJ uF [(695,Bn)] ai [bq,bz,ay,aB,aW]))))))))))))
@[irreducible] def yc:Fn:=sl (bl 4 [] 3 Lx)
abbrev arZ:=ba (aM aJ du [] (aw fK [695] [] ai) [au [ah 5]])
abbrev arR:=ba (aM aJ ou [(695,vE)] ai [])
abbrev asp:=ba (aA eg [J aq,aB])
abbrev arA:=aY (fA (aF dk (aw gF [501] [] bq) (J eG)) (fA (cq (aw p4 [501] [] bq)) lN)) asp bh
abbrev asf:=aw bY [230,355,522] [] ay
abbrev ark:=ao (aN az) asf aW
abbrev asG:=aF bf (aw b9 [202] [] aB) (J cA)
abbrev ass:=ao (aN az) (aw dg [695] [] ai) (Un iX (ah 1))
def LG:SM:=(ak (aY (aF bf ash (aw ml [522] [] ay)) asp bh) (ak (bA 4 ass) (ak (aY (cQ (cq (aA kK [asf,aW])) (cQ (aF bf (aw eC [202] [] ark) (J je)) fX)) (ak (aY (aF dk (aw b9 [202] [] ark) (aw kP [501] [] bq)) (ba (aA eg [J mq,ark])) bh) asl) bh) (ak (aY asG arR (ak arA (ak (cW p4 [501] [] bq (aL (.bool W))) arZ))) (aV aW)))))
@[irreducible] def Bu:Fn:=sl (bl 4 [] 1 LG)
abbrev asj:=aw cg [355,522] [183] ay
def LF:SM:=(ak (d8 [3,4] (au [asf,ao aX asj (ah 1)])) (ak (aY (aF (cI az) (aw b9 [202] [] aB) (aL yw)) (ak (d8 [5,4] (aM aJ m7 [(695,vG)] ai [aB,aW,bq])) (ak (d8 [6,4] (aM aJ m8 [(695,vD)] ai [aW,bq])) (ak (ba (aM aJ m6 [(695,vH)] ai [au [aA vJ [aw b9 [202] [] aB],bZ],bz])) (aV bq)))) bh) (ak (aY (aF (cI az) (aw b9 [202] [] aB) (au [J gp,J cA])) (aV (aM aJ uC [(695,Bu)] ai [ay,aB,bq])) bh) (ak (d8 [7,4] (aM aJ kS [(695,yc)] ai [aB,aW,bq])) (ak (ba (aM aJ du [] (aw fK [695] [] ai) [eV])) (aV bq))))))
@[irreducible] def ye:Fn:=sl (bl 3 [] 5 LF)
abbrev arO:=ba (aM aJ du [] hU [au [J yA,au [au [ah 4,bz],aW]]])
abbrev arI:=cQ (aF eL bZ (b7 aB)) (cQ (aF dk (aA n7 [ao (aN az) aB bZ]) (J iG)) fX)
abbrev asv:=aw bY [230,355,522] [] (ao (aN az) aB bZ)
abbrev asu:=ba (aM aJ qu [] (aw iw [695] [] ai) [hU])
def Ls:SM:=(ak (d8 [3,4] (aM aJ m7 [(695,vG)] ai [ay,aB,ah 1])) (ak (d8 [5,4] (aM aJ m8 [(695,vD)] ai [aB,bq])) (ak (bA 6 bq) (ak (gm arI (bA 6 (ao aX bZ (ah 1)))) (ak (aY (aF bf bZ (b7 aB)) asa bh) (ak (bA 7 (ao aX bZ (ah 1))) (ak (bA 8 (gj [au [J qr,aL .none]])) (ak (aY (cQ (aF eL eV (b7 aB)) (cQ (aF bf (aA n7 [ao (aN az) aB eV]) (J gp)) fX)) (ak (ba (aM aJ du [] hU [aA jY [aw bY [230,355,522] [] (ao (aN az) aB eV),ah 1,aL (.bool UA)]])) (ak (ba (aM aJ du [] hU [au [J zD,au [ah 5]]])) (bA 7 (ao aX eV (ah 1))))) bh) (ak (aY (aF eL eV (b7 aB)) (ba (aA eg [J aq,ao (aN az) aB eV])) bh) (ak (ba (aM aJ du [] hU [aA jY [asv,ah 1,aL (.bool UA)]])) (ak arO (ak (ba (aM aJ du [] hU [aA jY [fB aB bq bZ (aL .none),ah 0,aL (.bool W)]])) asu))))))))))))
@[irreducible] def Bo:Fn:=sl (bl 3 [] 6 Ls)
abbrev ar9:=ao (aN az) asf (ah 0)
def Lr:SM:=(ak (bA 2 (aA n7 [ay])) (ak (aY (aF bf aB (J fj)) asa bh) (ak (d8 [3,4] (au [ar9,asf])) (aY (aF bf aB (J eG)) (ba (aM aJ uD [(695,Bo)] ai [aW,bq])) (aY (aF (cI az) aB (aL yw)) (ak (d8 [5,6] (aM aJ m7 [(695,vG)] ai [aW,bq,ah 1])) (ak (d8 [7,6] (aM aJ m8 [(695,vD)] ai [bq,bZ])) (ak (ba (aM aJ m6 [(695,vH)] ai [au [aA vJ [aB],eV],bz])) (ak (ba (aM aJ du [] (aw iw [695] [] ai) [au [J qr,aL .none]])) (ba (aM aJ du [] (aw iw [695] [] ai) [aA jY [bq,bZ,aL (.bool UA)]])))))) (ak (d8 [8,6] (aM aJ kS [(695,yc)] ai [aW,bq,ah 1])) (ak (ba (aM aJ du [] (aw iw [695] [] ai) [au [J zD,hU]])) (ba (aM aJ du [] (aw iw [695] [] ai) [aA jY [bq,bZ,aL (.bool W)]])))))))))
@[irreducible] def yb:Fn:=sl (bl 2 [] 7 Lr)
abbrev arc:=ak (aY (aF bf asj (b7 asf)) (ak (aY (aF mC ash (aw ml [522] [] ay)) (ba (aA eg [J aq,aw fG [501] [] ass])) bh) Eb) bh) (ak (bA 2 (ao (aN az) asf asj)) (ak (ba (aM aJ du [] (aw iw [695] [] ai) [au [J jE,ay]])) (aY (cq (ju iV aB (aL (.gl 230)))) (ak (cW cg [355,522] [183] ay (ao aX asj (ah 1))) (ba (aM aJ r7 [(695,yb)] ai [aB]))) (aY (fA (cq (aw p5 [522] [] ay)) (fA (aF dk (aw eC [202] [] aB) (J gF)) lN)) asp (cW cg [355,522] [183] ay (aM aJ r5 [(695,ye)] ai [ay,aB]))))))
def LI:SM:=(ak (aY (aF kj (aw ml [522] [] ay) (aL .none)) (cW ml [522] [] ay ash) bh) arc)
@[irreducible] def Bv:Fn:=sl (bl 2 [] 1 LI)
def LK:SM:=(ak (d8 [2,3] ay) (aY (aF bf aB (J zD)) (ba (aM aJ du [] (aw fK [695] [] ai) [aW])) (aY (aF bf aB (J yA)) (ba (aM aJ m6 [(695,vH)] ai [ao (aN az) aW (ah 0),ao (aN az) aW (ah 1)])) (aY (aF bf aB (J qr)) arR (ba (aM aJ jE [(695,Bv)] ai [aW]))))))
@[irreducible] def Bx:Fn:=sl (bl 2 [] 2 LK)
def LH:SM:=(ak (ba (aM aJ du [] (aw iw [695] [] ai) [aA jY [ay,ah 0,aL (.bool UA)]])) (ak (gm (aF dk (aw iw [695] [] ai) (ar [])) (ba (aM aJ uB [(695,Bx)] ai [aM aJ JD [] (aw iw [695] [] ai) []]))) (ak arY (aV (aw fK [695] [] ai)))))
@[irreducible] def yf:Fn:=sl (bl 2 [] 0 LH)
def Mq:SM:=(aV (aM aJ rZ [(695,yf)] (aA xK [ai,ay]) [aB]))
@[irreducible] def pN:Fn:=sl (bl 3 [] 0 Mq)
def Ml:SM:=(aV (ar [au [ar [J cA],J aq,ah 0],au [ar [J gp],J aq,ah 0],au [ar [J eM,J fH],J aq,ah 0],au [ar [J j5,J eG,J fH,J cA],J aq,ah 0],au [ar [J eM,J j5],J aq,ah 1],au [ar [J eG,J mK],J aq,ah 0],au [ar [J eM,J mK,J cA,J JC],J mq,ah 3],au [ar [J j5,J cA,J mK],J mq,ah 2],au [ar [J eG,J gp,J mK,J cA],J mq,ah 2],au [ar [J eG,J gp,J gp,J cA],J aq,ah 2],au [ar [J j5,J gp,J cA],J aq,ah 1],au [ar [J eG,J fH,J cA,J qq],J aq,ah 3],au [ar [J eG,J gp,J dq,J cA],J aq,ah 2],au [ar [J eM,J mK,J cA,J mK,J mK],J aq,ah 4],au [ar [J eM,J mK,J JC,J cA],J aq,ah 2],au [ar [J qq],J aq,ah 0],au [ar [J ko],J aq,ah 0],au [ar [J zF],J eN,ah 0],au [ar [ar [J Sh,J s7]],J aq,ah 2],au [ar [ar [J rK,J dq,J fH]],J aq,ah 3],au [ar [ar [J Sh,J fH]],J aq,ah 2],au [ar [ar [J eG,ar [J fH]]],J aq,ah 1],au [ar [ar [J eG,ar [J iG],ar [J iG]]],J aq,ah 4],au [ar [ar [J eG,ar [J iG],ar [J gp],ar [J gp]]],J aq,ah 6],au [ar [ar [J eG,ar [J iG],J fH]],J aq,ah 4],au [ar [ar [J eG,J fH,ar [J iG]]],J aq,ah 2],au [ar [ar [J eG,ar [J gp],ar [J iG]]],J aq,ah 3],au [ar [ar []],J aq,ah 0],au [ar [ar [J mK,J fH]],J aq,ah 0],au [ar [ar [J qq]],J aq,ah 0],au [ar [ar [J zF]],J aq,ah 0],au [ar [ar [ar [J fH]]],J aq,ah 0],au [ar [ar [J eM,J cA]],J aq,ah 2],au [ar [ar [J eM,ar [J gp]]],J aq,ah 3],au [ar [ar [J iG]],J aq,ah 1],au [ar [ar [J eM,J mK,J JC]],J aq,ah 3],au [ar [ar [J j5,J eM,J fH]],J aq,ah 2],au [ar [ar [J eG,ar [J iG,J eM]]],J aq,ah 4],au [ar [ar [J eG,ar [J iG],ar [J gp,J j5,J fH]]],J aq,ah 6]]))
@[irreducible] def BM:Fn:=sl (bl 0 [] 0 Ml)
def EC:SM:=(ak (bA 0 (J Sl)) (ak (bA 1 (gw (iQ (aM aJ agY [] (ao aX ai (J agJ)) [J Sz])) [] (au [ar [ai],J aq,ah 0]) [])) (ak (bA 1 (ao aX ay (gw (iQ (au [J agu,J agK,J agQ])) [] (au [ar [ai],J eN,ah 0]) []))) (ak (bA 2 (ar [J Se,J Sf,J Sy,J Sj,J Si,J Sk])) (ak (bA 1 (ao aX ay (gw (iQ aB) [] (au [ar [ai],ai,Un iX (ah 1)]) []))) (ak (bA 1 (ao aX ay (ar [au [ar [ar [J JB,ar [J fH]]],J JB,Un iX (ah 2)],au [ar [J gD,ar [J fh,J yE]],J yE,Un iX (ah 4)]]))) (aV (ao aX ay (ar [au [ar [J eM,ar [J fh,J vU],J cA],J vU,Un iX (ah 4)],au [ar [J j5,ar [J gq,J yD],J cA],J yD,Un iX (ah 4)]])))))))))
@[irreducible] def BQ:Fn:=sl (bl 0 [] 3 EC)
def Mn:SM:=(aV (ar [au [ar [J vX,J km],J DB,ah 1],au [ar [J Ce,J dq,J km],J DB,ah 2],au [ar [J vX],J aq,ah 0],au [ar [J Ce],J aq,ah 0],au [ar [J vX,J JA],J aq,ah 1],au [ar [J vX,J dq,J dq],J aq,ah 2],au [ar [J Cd,J zF],J eN,ah 1],au [ar [J Cd,J zC],J iU,ah 1],au [ar [J GQ,J km],J Su,ah 1],au [ar [J rK],J aq,ah 0],au [ar [J rK,ar [J fH]],J aq,ah 1],au [ar [J rK,J RT],J aq,ah 1],au [ar [J GR,J zC],J iU,ah 1],au [ar [J rK,J fH],J aq,ah 1],au [ar [J rK,J dq,J dq],J aq,ah 2],au [ar [J uv],J aq,ah 0],au [ar [J uv,ar [J fH]],J aq,ah 1],au [ar [J uv,J dq,J dq],J aq,ah 2],au [ar [J uv,J km],J Sq,ah 1],au [ar [J uv,J zC],J iU,ah 1],au [ar [J Cg,J JA],J aq,ah 1],au [ar [J Cf,J km],J Ss,ah 1],au [ar [J Cq,J km],J Sm,ah 1],au [ar [J Cs,J km],J wH,ah 1],au [ar [J Cn],J aq,ah 0],au [ar [J Cm,J dq],J aq,ah 1],au [ar [J Cr,J dq],J aq,ah 1],au [ar [J uw,J km],J oW,ah 1],au [ar [J uw,J dq,J dq],J aq,ah 2],au [ar [J uz,J dq],J aq,ah 1],au [ar [J uz,J dq,J dq,J dq],J aq,ah 3],au [ar [J pZ],J aq,ah 0],au [ar [J pZ,ar [J fH]],J aq,ah 1],au [ar [J pZ,J dq,J dq,J dq],J aq,ah 3],au [ar [J Ci,J dq,J dq],J aq,ah 2],au [ar [J pZ,J dq,J km],J wH,ah 2],au [ar [J pZ,J km,J dq],J oW,ah 1],au [ar [J pZ,J km],J wH,ah 1],au [ar [J Ct,J km],J oW,ah 1],au [ar [J uz,J km,J dq],J oW,ah 1],au [ar [J uz,J dq,J km],J oW,ah 2]]))
@[irreducible] def BN:Fn:=sl (bl 0 [] 0 Mn)
def EB:SM:=(ak (bA 0 (gw (iQ (au [J u0,J dq,J u4,J Dm,J Jy,J Dk])) [] (au [ar [J ux,ao aX (J mJ) ai],J ng,ah 1]) [])) (ak (bA 0 (ao aX ai (gw (iQ (au [J agv,J agV,J agS])) [] (au [ar [J Ck,ai],J iU,ah 1]) []))) (ak (bA 0 (ao aX ai (gw (iQ (au [J agw,J mJ,J nL,J agT,J agU,J agW])) [] (au [ar [J Cj,ai],J eN,ah 1]) []))) (ak (bA 1 (ar [au [J Ds,J Dz],au [J Dz,J Dz],au [J Ds,J Ds]])) (ak (bA 0 (ao aX ai (gw (iQ ay) [] (au [ar [J ux,ao (aN az) ai (ah 0),ao (aN az) ai (ah 1)],J aq,ah 2]) []))) (ak (bA 0 (ao aX ai (ar [au [ar [J ux,J qq],J aq,ah 1],au [ar [J ux,J ko],J aq,ah 1],au [ar [J oq],J aq,ah 0]]))) (ak (bA 0 (ao aX ai (ar [au [ar [ar [J oq]],J aq,ah 1],au [ar [ar [J oq,ar [J fH]]],J aq,ah 2],au [ar [J oq,J ko],J aq,ah 1]]))) (ak (bA 0 (ao aX ai (ar [au [ar [J oq,J fH],J aq,ah 1],au [ar [J Cc,J zF],J eN,ah 1],au [ar [J oq,J s7,J s7],J aq,ah 2]]))) (ak (bA 0 (ao aX ai (gw (iQ (au [J zC,J RV,J RU])) [] (au [ar [J oq,ai],J jF,ah 1]) []))) (ak (bA 2 (au [J RS,J RW,J RX])) (aV (ao aX ai (gw (iQ aB) [] (au [ar [J Cc,ai],J jF,ah 1]) [])))))))))))))
@[irreducible] def BP:Fn:=sl (bl 0 [] 3 EB)
abbrev arJ:=ar [J gq,J ko,J fD]
def Mo:SM:=(aV (ar [au [ar [J uy],J aq,ah 0],au [ar [J uy,J qq],J aq,ah 1],au [ar [J uy,J fD],J aq,ah 1],au [ar [ar [J uy,ar [J gc]]],J aq,ah 2],au [ar [J gD,ar [J fh,J agI]],J aq,ah 3],au [ar [J gD,ar [J fh,ar [J fD]]],J aq,ah 3],au [ar [J gD,ar [J fh,J ko]],J aq,ah 3],au [ar [J gD,ar [J fh,J zF]],J eN,ah 3],au [ar [J eM,ar [J fh,ar [J fH]],J cA],J aq,ah 3],au [ar [J j5,ar [J gq,ar [J fD]],J cA],J aq,ah 3],au [ar [J gD,ar [J fh,J fD],ar [J ej,J dq]],J aq,ah 5],au [ar [J gD,ar [J gq,J fD]],J aq,ah 2],au [ar [J eM,arJ,J cA],J aq,ah 1],au [ar [J j5,ar [J ej,J dq],arJ,J cA],J aq,ah 1],au [ar [J uw,arJ],J aq,ah 1],au [ar [J uw,J dq,arJ],J aq,ah 2],au [ar [J eM,ar [J fh,J fD],ar [J gq,J fD],J cA],J aq,ah 5],au [ar [J eM,ar [J gq,J fD],ar [J ej,J dq],J cA],J aq,ah 5],au [ar [J eM,ar [J fh,J fD],ar [J ej,J dq],J cA],J aq,ah 5],au [ar [J eM,ar [J ej,J dq,J dq],J cA],J aq,ah 4],au [ar [J eM,ar [J ej],J cA],J aq,ah 1],au [ar [J eM,ar [J ej,J km],J cA],J Sv,ah 3],au [ar [J j5,ar [J ej,J RY],ar [J fh,J fD],J cA],J Sw,ah 1],au [ar [J eM,ar [J ej,J dq],ar [J gq,J oh],J cA],J s8,ah 1],au [ar [J uw,ar [J ej,J dq],ar [J ej,J dq]],J aq,ah 5],au [ar [J eG,ar [J fh,J ko,J fD],J gp,J cA],J aq,ah 3]]))
@[irreducible] def BO:Fn:=sl (bl 0 [] 0 Mo)
abbrev ar2:=qJ ay (ah 0) (ao aX (ao (aN az) ay (ah 0)) (ah 1))
abbrev arw:=d8 [4,5] (au [ao aX (ah 1) (ao wz (ao (aN az) ay (ah 0)) (ah 7)),ao aX (ah 1) (ao qh (ao (aN az) ay (ah 0)) (ah 7))])
abbrev asi:=cS (aF bf (ao (aN az) aW (ah 0)) (J wJ)) (J je) (cS (qE iW iW (J oV) (ao (aN az) aW (ah 0)) (J wK)) (J gF) (J u5))
abbrev arf:=aY (aF (cI az) (ao (aN az) aW (ah 0)) (J Jx)) (ba (aM aJ du [] aB [aA pB [J jG,aW,ToInt nq aW,bq,bz]])) (ak (bA 6 asi) (ba (aM aJ du [] aB [aA pB [bZ,aW,aW,bq,bz]])))
abbrev asA:=jv (cq (ju iV aW (aL (.ty "str"))))
def AP(n:Nat)(F:Fn):SM:=(ak (bA 2 (gj [])) (ak (jt az (.nm 3) ai (ak arw (ak ar2 (aY asA (ba (aM aJ du [] aB [aA vw [aA F [aW,ay],bq,bz]])) arf)))) (aV aB)))
def ud:Nat->Fn
 |0=>λ_ _ _ _=>False
 |n+1=>xr (bl 2 [] 5 (AP n (ud n)))
def n8:Fn:=ud 8
def AQ:SM:=(ak (bA 3 (ao aX (ao qi (ar [J fH]) ay) aB)) (ak (aY (aF bf ai (ah 0)) (aV (au [aW,ay])) bh) (ak (aY (aF bf ai (ah 1)) (aV (au [ao aX (ar [J eM,J Du]) aW,ao aX (ah 2) ay])) bh) (ak (aY (aF bf ai (ah 2)) (aV (au [ar [ao aX (ar [J j5,J mK]) aW],ao aX (ah 3) ay])) bh) (ak (aY (aF bf ai (ah 3)) (aV (au [ar [ar [J eG,ar [J oq,J s7],ao aX (ar [J iG]) aW]],ao aX (ah 7) ay])) bh) (aV (au [ar [ar [J eG,J mK,ar [J iG,J fH],ao aX (ar [J gp]) aW]],ao aX (ah 8) ay])))))))
@[irreducible] def vO:Fn:=sl (bl 3 [] 1 AQ)
def Mm:SM:=(ak (bA 2 (ao qi (ar [au [ah 1]]) ay)) (ak (aY (aF bf ai (ah 0)) (aV aB) bh) (ak (aY (aF eL ai (ah 3)) (aV (ao aX (ao aX (ar [au [cS (aF bf ai (ah 1)) (ah 2) (ah 3),Un iX (ah 64)]]) aB) (ar [au [ah 11]]))) bh) (ak (aY (aF bf ai (ah 3)) (aV (ao aX (ao aX (ar [au [ah 65,ah 1],au [ah 4,Un iX (ah 64)]]) aB) (ar [au [ah 11]]))) bh) (aV (ao aX (ao aX (ar [au [ah 4,Un iX (ah 64)],au [ah 1],au [ah 5]]) aB) (ar [au [ah 11]])))))))
@[irreducible] def yo:Fn:=sl (bl 2 [] 1 Mm)
def AR:SM:=(ak (KS (ba (aA pN [ai,pf [(ko,.int 3)],ay])) [⟨[164],[144,183],2,aV (au [aw iR [] [144,164,183] aB,arX,arV])⟩,⟨[183],[144,164],2,aV (au [aw iR [] [144,164,183] aB,aw cg [355,522] [183] aB])⟩]) (aV (aL .none)))
@[irreducible] def ue:Fn:=sl (bl 2 [] 1 AR)
abbrev ar6:=cS (aF eL ai (b7 ay)) (ao (aN az) ay ai) (ah 0)
abbrev arK:=aA n8 [bZ,gj [ah 0]]
abbrev arE:=cS (aF bf aB (ah 1)) (ar [J cA,J Du]) (ar [])
abbrev arD:=cS (aF kh mx (ah 0)) mx (ao jN (Un iX (ah 1)) mx)
abbrev arB:=bA 13 (au [Loc 10,ao aX (ah 1) (ao wz (Loc 12) (ah 7)),ao aX (ah 1) (ao qh (Loc 12) (ah 7))])
abbrev arv:=cS (cQ (aF bf aB (ah 1)) (cQ (aF bf iH (ar [J cA])) fX)) (ah 0) aB
abbrev ars:=cS (aF kh mx (ah 0)) (Loc 13) (fB (Loc 13) (aL .none) (ah 2) (aL .none))
def EA:SM:=(ak (bA 1 (gw (SrcR (ah 3)) [0] ar6 [])) (ak (d8 [2,3,4] (au [ao qh (ao (aN az) ay (ah 0)) (ah 5),ao qh (ao (aN az) ay (ah 1)) (ah 4),ao qh (ao (aN az) ay (ah 2)) (ah 3)])) (ak (bA 5 (aA xM [])) (ak (ba (aM aJ du [] (aw fg [770] [] bz) [au [au [Un iX (ah 1)],au []]])) (ak (d8 [6,7] (aA vO [aB,aW,ar []])) (ak (bA 6 (ao aX bZ arE)) (ak (aY (aF dk (aA pN [bz,pf [],arK]) (ao aX (aA yo [aB,aW]) (ar [au [ah 11]]))) (aV (aL (.bool UA))) bh) (ak (bA 8 (ao aX (ao aX (ao aX (ao aX (aA BQ []) (aA BM [])) (aA BN [])) (aA BP [])) (aA BO []))) (ak (jt az (.tp [9,10,11]) (fB hU bq (aL .none) (ah 3)) (ak (d8 [6,7] (aA vO [arv,aW,iH])) (ak (bA 12 (ao aX eV arD)) (ak arB (aY (aF dk (aA ue [bz,arK]) ars) (aV (aL (.bool UA))) bh))))) (aV (aL (.bool W))))))))))))
@[irreducible] def qX:Fn:=sl (bl 1 [] 13 EA)
set_option genCtorIdx true in
inductive So where|id|int|word|res
set_option genCtorIdx true in
inductive Fm where|f0|f1|f2|f3|f4|f5|f6|f7|f8|f9|f10|f11|f12|f13|f14|f15|f16|f17|f18|f19|f20
structure Wd where
 sort:So:=.word
 txt:Str
 val:Int:=0
 sg:Bool:=UA
 ln:Bool:=UA
 kd:Option Int:=Sa
 cz:Bool:=UA
 j6:Bool:=UA
 p7:Bool:=UA
 code:Option Nat:=Sa
 aZ:Fm:=.f0
 nat:Int:=0
 jf:Bool:=UA
 heap:Option Int:=Sa
 off:Bool:=UA
 al:Bool:=UA
 cut:Str:=⟨⟨[]⟩⟩
 num:Option Int:=Sa
 ex:Int:=0
 np:Bool:=UA
noncomputable def So.s:So->Str | .id=>je | .int=>jG | .word=>gF | .res=>u5
noncomputable def So.v:So->Str->Int->O | .int,_,v=>.int v | .id,s,_=>.str s | .word,s,_=>.str s | .res,s,_=>.str s
noncomputable def nW:So->Bool | .word=>UA | .id=>W | .int=>W | .res=>W
noncomputable def eR:So->Bool | .word=>UA | .id=>UA | .int=>UA | .res=>W
noncomputable def eI:So->Bool | .word=>UA | .id=>UA | .int=>W | .res=>UA
noncomputable def eD:So->Bool | .word=>UA | .id=>W | .int=>UA | .res=>UA
noncomputable def xI:So->Bool | .word=>UA | .id=>W | .int=>W | .res=>UA
def zW(w:Wd)(r c:Nat):O:=.obj 202 [(eC,.str w.sort.s),(b9,.str w.txt),(lA,w.sort.v w.txt w.val),(cZ,.int r),(df,.int c)]
def brA(is:List O)(r c:Nat):O:=.obj 230 [(bY,.lst is),(cZ,.int r),(df,.int c)]
def lj(a:Str)(r c:Nat):List (Str×O):=[(iR,.str a),(cZ,.int r),(df,.int c)]
def zb(a:Str)(r:Nat):List (Str×O):=[(iR,.str a),(cg,.int r)]
noncomputable def oN:Option Nat->Nat|some n=>n|none=>0
noncomputable def oA:Option Nat->O|some n=>.int n|none=>.none
noncomputable def mB:Option Int->O|some n=>.int n|none=>.none
noncomputable def oZ:Option Int->Int|some i=>i|none=>0
noncomputable def kZ{a:Type}:Option a->Bool|some _=>UA|none=>W
def Fm.v:Fm->Str
 | .f0=>gB | .f1=>eM | .f2=>fF | .f3=>dg | .f4=>gc | .f5=>mZ | .f6=>fg | .f7=>fR | .f8=>gC | .f9=>dh | .f10=>fS | .f11=>fD | .f12=>oh | .f13=>vV | .f14=>vW | .f15=>il | .f16=>rm | .f17=>rn | .f18=>iC | .f19=>oj | .f20=>m9
noncomputable def Fm.y0:Fm->Bool | .f20=>W | .f0 | .f1 | .f2 | .f3 | .f4 | .f5 | .f6 | .f7 | .f8 | .f9 | .f10 | .f11 | .f12 | .f13 | .f14 | .f15 | .f16 | .f17 | .f18 | .f19=>UA
noncomputable abbrev E6:Str:=Jx
section
variable(w:Wd)(H:List MO)(K:bp)(X:KX)(F:KF)(x:O)
def wW(p:Prop):Prop:=cond (nW w.sort) True p
def wN(p:Prop):Prop:=cond (w.al&&bX (kZ w.num)) p True
def vd(e:Int):En:=[Y (.int (oZ w.num)),Y x,Y (.int e)]
abbrev asw:=gv (cI az) (ao (aN az) ai (ah 0)) (J wI)
noncomputable def wL:List Prop:=[
 bl 1 [] 0 Ew [.str w.txt] H K X,
 bl 1 [] 1 Ez [.str w.txt] H K X,
 wW w (bl 1 [] 0 Ey [.str w.txt] H K X),
 wW w (bl 1 [] 4 Es [.str w.txt] H K X),
 wW w (bl 1 [] 0 Eu [.int (oN w.code)] H K X),
 wW w (cond (kZ w.code) (bl 1 [] 0 Ex [.str w.txt] H K X) True),
 wW w (cond w.aZ.y0 (bl 1 [] 1 ED [.int (oN w.code)] H K X) True),
 wW w (bl 1 [] 1 AO [.str w.txt] H K X),
 wW w (oP (cI az (.str w.txt) yw H) λb=>K (.bool b) H),
 wW w (oP (cI az (.str w.txt) (.tup [.str gp,.str cA]) H) λb=>K (.bool b) H),
 wW w (oP (kC aJ .sw (.str w.txt) [.str nL] H) λp=>K p.1 p.2),
 wW w (oP (kC aJ .sw (.str w.txt) [.str mJ] H) λp=>K p.1 p.2),
 cond w.off (oP (mF (.str w.txt) (Y 7) Sa Sa H) λv=>K v H) True,
 cond w.al (oP (mF (.str w.txt) (Y 6) Sa Sa H) λv=>K v H) True,
 cond (w.off||w.al) (arh [Y (.str w.cut),Y x,Sa] H K X) True,
 wN w ((gm ar0 arN) (vd w x 0) H F λC fs _ H=>X C fs H),
 wN w ((gv dk (ao nG (ah 2) aB) ai) (vd w x w.ex) H K X),
 cond (eI w.sort) (asw [Y (.str w.txt)] H K X) True,
 K (.bool (bw w.txt.cps.toList 1000)) H,
 (gv (cI az) (ao (aN az) ai (ah 0)) (J E6)) [Y (.str w.txt)] H K X,
 cond (eI w.sort) ((ToInt nq ai) [Y (.str w.txt)] H K X) True,
 cond (eI w.sort) True ((gv bf (ao (aN az) ai (ah 0)) (J wJ)) [Y (.str w.txt)] H K X),
 cond (xI w.sort) True ((Kj iW iW (J oV) (ao (aN az) ai (ah 0)) (J wK)) [Y (.str w.txt)] H K X)]
end
noncomputable def wR(w:Wd)(H:List MO)(K:bp)(_:KX)(F:KF)(x:O):List Prop:=[
 K (.bool w.ln) H,
 K (mB w.kd) H,
 wW w (K (.bool w.cz) H),
 wW w (K (oA w.code) H),
 wW w (K (.str w.aZ.v) H),
 wW w (cond (kZ w.code) (K (.bool w.jf) H) True),
 wW w (cond w.aZ.y0 (K (.int w.nat) H) True),
 wW w (K (mB w.heap) H),
 wW w (K (.bool w.j6) H),
 wW w (K (.bool w.p7) H),
 wW w (K (.bool w.off) H),
 wW w (K (.bool w.al) H),
 cond w.off (K (.str w.cut) H) True,
 cond w.al (K (.str w.cut) H) True,
 cond (w.off||w.al) (K (mB w.num) H) True,
 wN w (F .next (vd w x w.ex) H),
 wN w (K (.bool w.np) H),
 cond (eI w.sort) (K (.bool w.sg) H) True,
 K (.bool W) H,
 K (.bool (eI w.sort)) H,
 cond (eI w.sort) (K (.int w.val) H) True,
 cond (eI w.sort) True (K (.bool (eD w.sort)) H),
 cond (xI w.sort) True (K (.bool (bX (nW w.sort))) H)]
def cJ(w:Wd):Prop:=wL w=wR w
abbrev OW:={w:Wd // cJ w}
noncomputable def bj(w:Wd)(h:wL w=wR w):OW:=⟨w,h⟩
theorem cT(h:b=W)(k:p):cP b p q:=by rw[h];exact k
theorem cF(h:b=UA)(k:q):cP b p q:=by rw[h];exact k
theorem ll{a b:Prop}(h:a=b)(x:b):a:=h▸x
section
variable{w:Wd}{H:List MO}{K:bp}{X:KX}
theorem gH(h:cJ w)(H K X F x)(n:Nat):(wL w H K X F x).getD n True=(wR w H K X F x).getD n True:=by rw[show wL w=wR w from h]
theorem tR(hb:b=W)(h:cond b p True=cond b q True):p=q:=by rw[hb]at h;exact h
theorem o9(a:nW w.sort=UA)(h:wW w p=wW w q):p=q:=by unfold wW at h;rw[a]at h;exact h
abbrev F0:KF:=λ_ _ _=>True
theorem cJ.ln(h:cJ w):yl [.str w.txt] H K X=K (.bool w.ln) H:=by unfold yl;rw[dU];exact gH h H K X F0 .none 0
theorem cJ.kd(h:cJ w):BK [.str w.txt] H K X=K (mB w.kd) H:=by unfold BK;rw[dU];exact gH h H K X F0 .none 1
theorem cJ.cz(h:cJ w)(s:nW w.sort=UA):yn [.str w.txt] H K X=K (.bool w.cz) H:=by unfold yn;rw[dU];exact o9 s (gH h H K X F0 .none 2)
theorem cJ.code(h:cJ w)(s:nW w.sort=UA):vJ [.str w.txt] H K X=K (oA w.code) H:=by unfold vJ;rw[dU];exact o9 s (gH h H K X F0 .none 3)
theorem cJ.aZ(h:cJ w)(s:nW w.sort=UA):BH [.int (oN w.code)] H K X=K (.str w.aZ.v) H:=by unfold BH;rw[dU];exact o9 s (gH h H K X F0 .none 4)
theorem cJ.jf(h:cJ w)(s:nW w.sort=UA)(c:kZ w.code=W):ym [.str w.txt] H K X=K (.bool w.jf) H:=by unfold ym;rw[dU];exact tR c (o9 s (gH h H K X F0 .none 5))
theorem cJ.nat(h:cJ w)(s:nW w.sort=UA)(c:w.aZ.y0=W):BR [.int (oN w.code)] H K X=K (.int w.nat) H:=by unfold BR;rw[dU];exact tR c (o9 s (gH h H K X F0 .none 6))
theorem cJ.heap(h:cJ w)(s:nW w.sort=UA):vM [.str w.txt] H K X=K (mB w.heap) H:=by unfold vM;rw[dU];exact o9 s (gH h H K X F0 .none 7)
theorem AF{a b:Bool}(h:O.bool a=O.bool b):a=b:=by cases h with|refl=>rfl
theorem Qh(h:(oP o λc=>(.bool c:O)= .bool b)=((.bool b:O)= .bool b)):o=Y b:=by
 cases o with
 |none=>exact(cast h.symm rfl:False).elim
 |some c=>cases (cast h.symm rfl:(.bool c:O)= .bool b);rfl
theorem cJ.j6(h:cJ w)(s:nW w.sort=UA):cI az (.str w.txt) yw H=Y w.j6:=Qh (o9 s (gH h H (λv _=>v = .bool w.j6) (λ_ _ _=>True) F0 .none 8))
theorem cJ.p7(h:cJ w)(s:nW w.sort=UA):cI az (.str w.txt) (.tup [.str gp,.str cA]) H=Y w.p7:=Qh (o9 s (gH h H (λv _=>v = .bool w.p7) (λ_ _ _=>True) F0 .none 9))
theorem MF{o:Option (O×List MO)}(h:(oP o λp=>p.1=v/\p.2=H)=(v=v/\H=H)):o=Y (v,H):=by
 cases o with
 |none=>exact(cast h.symm ⟨rfl,rfl⟩: False).elim
 |some c=>obtain⟨a,b⟩:=c;refine a9 ((cast h.symm ⟨rfl,rfl⟩: a=v/\b=H)) λe f=>?_;subst e;subst f;rfl
theorem cJ.swO(h:cJ w)(s:nW w.sort=UA):kC aJ .sw (.str w.txt) [.str nL] H=Y (.bool w.off,H):=MF (o9 s (gH h H (λv G=>v = .bool w.off/\G=H) (λ_ _ _=>True) F0 .none 10))
theorem cJ.swA(h:cJ w)(s:nW w.sort=UA):kC aJ .sw (.str w.txt) [.str mJ] H=Y (.bool w.al,H):=MF (o9 s (gH h H (λv G=>v = .bool w.al/\G=H) (λ_ _ _=>True) F0 .none 11))
theorem RA(h:(oP o λp=>p=v)=(v=v)):o=Y v:=by
 cases o with
 |none=>exact(cast h.symm rfl:False).elim
 |some c=>cases (cast h.symm rfl:c=v);rfl
theorem cJ.aby(h:cJ w)(s:w.off=W):mF (.str w.txt) (Y 7) Sa Sa H=Y (.str w.cut):=RA (tR s (gH h H (λv G=>v = .str w.cut) (λ_ _ _=>True) F0 .none 12))
theorem cJ.abx(h:cJ w)(s:w.al=W):mF (.str w.txt) (Y 6) Sa Sa H=Y (.str w.cut):=RA (tR s (gH h H (λv G=>v = .str w.cut) (λ_ _ _=>True) F0 .none 13))
theorem cJ.num(h:cJ w)(s:(w.off||w.al)=W)(x:O):arh [Y (.str w.cut),Y x,Sa] H K X=K (mB w.num) H:=tR s (gH h H K X F0 x 14)
theorem cJ.exw(h:cJ w)(s:(w.al&&bX (kZ w.num))=W)(x:O)(F:KF):(gm ar0 arN) (vd w x 0) H F (λC fs _ H=>X C fs H)=F .next (vd w x w.ex) H:=by
 have:=gH h H (λ_ _=>True) X F x 15;unfold wL wR wN at this;rw[s]at this;exact this
def toB(K:Bool->List MO->Prop)(v:O)(H:List MO):Prop:=match v with | .bool b=>K b H|_=>False
theorem cJ.npT(h:cJ w)(s:(w.al&&bX (kZ w.num))=W)(x:O){K:Bool->List MO->Prop}:ar1 (vd w x w.ex) H K X=K w.np H:=by
 have:=gH h H (toB K) X F0 x 16;unfold wL wR wN at this;rw[s]at this;exact this
theorem cJ.sgn(h:cJ w)(s:eI w.sort=W):asw [Y (.str w.txt)] H K X=K (.bool w.sg) H:=tR s (gH h H K X F0 .none 17)
theorem cJ.Tv(h:cJ w)(s:eI w.sort=W)(H:List MO):∃v,aN az (.str w.txt) (.int 0) H=Y v/\cI az v (.str wI) H=Y w.sg:=by
 have e:=cast (h.sgn (H:=H) (K:=λv _=>v = .bool w.sg) (X:=λ_ _ _=>True) s).symm rfl;have e:oP (aN az (.str w.txt) (.int 0) H) (λx=>oP (cI az x (.str wI) H) λb=>(.bool b:O)= .bool w.sg):=e;refine oK e λv a e=>oK e λb hb e=>?_;have f:=AF e;clear e;subst f;exact⟨v,a,hb⟩
theorem cJ.len(h:cJ w):bw w.txt.cps.toList 1000=W:=by
 have:=gH h [] (λv _=>v = .bool W) (λ_ _ _=>True) F0 .none 18;have this:((.bool (bw w.txt.cps.toList 1000):O)= .bool W)=((.bool W:O)= .bool W):=this;cases q:bw w.txt.cps.toList 1000 with
 |true=>rfl
 |false=>rw[q]at this;cases (this.symm▸rfl:(.bool UA:O)= .bool W)
theorem M9(hb:b=UA)(h:cond b True p=cond b True q):p=q:=by rw[hb]at h;exact h
theorem cJ.dig(h:cJ w)(H:List MO):∃v,aN az (.str w.txt) (.int 0) H=Y v/\cI az v (.str E6) H=Y (eI w.sort):=by
 have e:=cast (gH h H (λv _=>v = .bool (eI w.sort)) (λ_ _ _=>True) F0 .none 19).symm rfl;have e:oP (aN az (.str w.txt) (.int 0) H) (λx=>oP (cI az x (.str E6) H) λb=>(.bool b:O)= .bool (eI w.sort)):=e;refine oK e λv a e=>oK e λb hb e=>?_;have f:=AF e;clear e;subst f;exact⟨v,a,hb⟩
theorem cJ.int(h:cJ w)(s:eI w.sort=W):look w.txt nq=Y w.val:=by
 have e:=cast (tR s (gH h [] (λv _=>v = .int w.val) (λ_ _ _=>True) F0 .none 20)).symm rfl;have e:oP (look w.txt nq) (λi=>(.int i:O)= .int w.val):=e;refine oK e λv a e=>?_;cases e;exact a
theorem cJ.dol(h:cJ w)(s:eI w.sort=UA)(j:aN az (.str w.txt) (.int 0) H=Y v):bf v (.str wJ) H=Y (eD w.sort):=by
 have e:=cast (M9 s (gH h H (λv _=>v = .bool (eD w.sort)) (λ_ _ _=>True) F0 .none 21)).symm rfl;have e:oP (aN az (.str w.txt) (.int 0) H) (λx=>oP (bf x (.str wJ) H) λb=>(.bool b:O)= .bool (eD w.sort)):=e;rw[j]at e;refine oK e λl a e2=>?_;have f:=UB a;clear a;subst f;refine oK e2 λb hb i=>?_;have f:=AF i;clear i;subst f;exact hb
theorem cJ.ae3(h:cJ w)(s:xI w.sort=UA)(l:aN az (.str w.txt) (.int 0) H=Y v):∃t,iW (.str oV) v H=Y t/\(t=UA->nW w.sort=W)/\(t=W->iW v (.str wK) H=Y (bX (nW w.sort))):=by
 have e:=cast (M9 s (gH h H (λv _=>v = .bool (bX (nW w.sort))) (λ_ _ _=>True) F0 .none 22)).symm rfl;have e:oP (aN az (.str w.txt) (.int 0) H) (λx=>oP (iW (.str oV) x H) λt=>cP t (oP (iW x (.str wK) H) λb=>(.bool b:O)= .bool (bX (nW w.sort))) ((.bool UA:O)= .bool (bX (nW w.sort)))):=e;rw[l]at e;refine oK e λp a e2=>?_;have f:=UB a;clear a;subst f;refine oK e2 λt j e=>?_;refine⟨t,j,λq=>?_,λq=>?_⟩
 .rw[q]at e;have e:=lS e;cases m:nW w.sort with|true=>rfl|false=>rw[m]at e;cases e
 .rw[q]at e;refine oK (lT e) λb hb i=>?_;have f:=AF i;clear i;subst f;exact hb
end
inductive Itm where
 |tok (w:OW) (r c:Nat)
 |br (is:List Itm) (r c:Nat)
mutual
noncomputable def aH:Itm->O
 | .tok w r c=>zW w.1 r c
 | .br is r c=>brA (aP is) r c
noncomputable def aP:List Itm->List O
 | []=>[]
 |t::r=>aH t::aP r
end
mutual
noncomputable def gX:Itm->Bool
 | .tok ..=>W
 | .br is _ _=>bw is 2000&&jm is
noncomputable def jm:List Itm->Bool
 | []=>W
 |t::r=>gX t&&jm r
end
noncomputable def Itm.r:Itm->Nat | .tok _ r _=>r | .br _ r _=>r
noncomputable def Itm.c:Itm->Nat | .tok _ _ c=>c | .br _ _ c=>c
noncomputable def Ip:Itm->Bool | .br ..=>W | .tok ..=>UA
theorem pJ:∀is:List Itm,aP is=is.map aH:=by
 intro is;induction is with
 |nil=>exact rfl
 |cons t r a=>exact congrArg (aH t :: ·) (a)
theorem lX(is:List Itm):(aP is).length=is.length:=by rw[pJ,VO]
theorem Fb(is:List Itm)(k:Nat):(aP is)[k]?=(is[k]?).map aH:=by rw[pJ,aeQ]
structure Ps (is:List Itm) (k:Nat) (t:List Itm):Prop where
 d:is.drop k=t
 b:k<=is.length
 s:is.length<=2000
 m:jm is=W
theorem TB:∀{is:List Itm}{it:Itm},jm is=W->it∈is->gX it=W
 |_::r,_,h,m=>by
  have h:(gX _&&jm r)=W:=h;rw[VG]at h;cases m with|head=>exact h.1|tail _ m=>exact TB h.2 m
theorem TG(h:gX (.br is r c)=W):is.length<=2000/\jm is=W:=by
 have h:(bw is 2000&&jm is)=W:=h;rw[VG]at h;exact⟨c7 h.1,h.2⟩
section
variable{is:List Itm}{k:Nat}{it:Itm}{r t:List Itm}
theorem Ps.nx(h:Ps is k (it::r)):Ps is (k+1) r :=
 have l:k < is.length:=apD λg=>by have:=h.d;rw[anW g]at this;cases this
 ⟨by rw[akF,h.d];rfl,l,h.s,h.m⟩
theorem Ps.lt(h:Ps is k (it::r)):k < is.length:=h.nx.b
theorem Ps.eq(h:Ps is k []):k=is.length:=anL h.b (List.drop_eq_nil_iff.mp h.d)
theorem Ps.at(h:Ps is k (it::r)):is[k]?=Y it:=by
 rw[←alg,h.d];rfl
theorem Ps.len(h:Ps is k t):is.length=k+t.length:=by
 have:=anC (l:=is) (i:=k);rw[h.d]at this;rw[this];exact(Nat.add_sub_cancel' h.b).symm
theorem Ps.sm(h:Ps is k (it::r)):gX it=W:=TB h.m (ak0 h.at)
theorem Ps.of{r c:Nat}(h:gX (.br is r c)=W):Ps is 0 is:=⟨rfl,akQ _,(TG h).1,(TG h).2⟩
theorem Fu(h:is.length<=2000):fits (aP is)=W:=c8 (by rw[lX];lia)
theorem j9(h:Ps is k t)(H:List MO):jM (.lst (aP is)) H=Y (O.int is.length):=by
 show alt (gd (fits (aP is)) (Y (O.int (aP is).length))) _=_;rw[Fu h.s,lX];rfl
theorem PS(h:xs[n]?=Y v)(b:n < 4611686018427387904):idx xs (.int (n:Nat))=Y v:=by
 have lt:n < xs.length:=(WC.mp h).1;show gd (aca n 4611686018427387904) ((ahS (n:Int) xs.length).bind λj=>xs[j]?)=_;have s:ahS (n:Int) xs.length=Y n:=by
  unfold ahS;rw[VP (Int.not_lt.mpr (alW n))];dsimp only;rw[VY (by rw[VG,akm,akm];exact⟨alW n,akq.mpr lt⟩)];rfl
 rw[blt_eq,ab8 b,s];exact h
theorem Qq(h:xs[n]?=Y v)(b:n < 4611686018427387904)(H:List MO):aN bd (.lst xs) (.int (n:Nat)) H=Y v:=by
 show alt Sa (alt (idx xs (.int (n:Nat))) _)=_;rw[PS h b];rfl
theorem Qr(h:H[k]?=Y (.lst xs))(hm:xs[n]?=Y v)(b:n < 4611686018427387904):aN bd (.ref k) (.int (n:Nat)) H=Y v:=by
 unfold aN;rw[show listOf H (.ref k)=Y xs by show H[k]?.bind mA=_;rw[h];rfl];show alt Sa (alt (idx xs (.int (n:Nat))) _)=_;rw[PS hm b];rfl
theorem lF(h:Ps is k (it::r))(H:List MO):aN az (.lst (aP is)) (.int k) H=Y (aH it) :=Qq (by rw[Fb,h.at];rfl) (VT h.lt (VR h.s (by decide))) H
theorem Jr(h:Ps is k (it::r)):decide ((k:Int)< (is.length:Int))=W:=ab8 (akq.mpr h.lt)
theorem agm(h:Ps is k (it::r)):decide ((is.length:Int)<=(k:Int))=UA:=ahR λq=>ame _ (aeF (aqH.mp q) h.lt)
theorem Js(h:Ps is k []):decide ((k:Int)< (is.length:Int))=UA:=ahR λq=>ame _ (aeF (ak4 h.eq.symm) (akq.mp q))
theorem agn(h:Ps is k []):decide ((is.length:Int)<=(k:Int))=W:=ab8 (aqH.mpr (ak4 h.eq.symm))
end
theorem aex(t:Itm)(H:List MO):zw iV (aH t) (.gl 230) H=Y (Ip t):=by cases t<;>rfl
set_option genCtorIdx true in
inductive Res (α:Type) where
 |stuck|ok (v:α)|bad (why:Str) (r c:Nat)|left (why:Str) (r:Nat)
noncomputable def Res.bind{a β:Type}(x:Res a)(f:a->Res β):Res β:=match x with
 | .stuck=>.stuck | .ok v=>f v | .bad w r c=>.bad w r c | .left w r=>.left w r
noncomputable def gn{α:Type}(b:Bool)(x:Res α):Res α:=cond b x .stuck
def Up(ps:List Nat)(H G:List MO):Prop:=∀k m,H[k]?=Y m->bx k ps=UA->G[k]?=Y m
abbrev Le:=Up []
section
variable{ps:List Nat}{H G F:List MO}{m:MO}{k:Nat}
theorem Up.r:Up ps H H:=λ_ _ h _=>h
theorem Up.t(a:Up ps H G)(b:Up ps G F):Up ps H F:=λk m h n=>b k m (a k m h n) n
theorem Le.u(a:Le H G):Up ps H G:=λk m h _=>a k m h rfl
theorem Le.g(a:Le H G)(h:H[k]?=Y m):G[k]?=Y m:=a k m h rfl
theorem Le.n(H:List MO)(m:MO):Le H (H++[m]):=λk x h _=>by
 rw[akX (WC.mp h).1];exact h
theorem Up.nn(a:Up ps H G)(m:MO):Up ps H (G++[m]):=a.t (Le.n G m).u
theorem Up.st(a:Up ps H G)(h:H[k]?=Sa)(m:MO):Up ps H (G.set k m):=λj x e n=>by
 rw[acF λq=>by rw[q]at h;rw[h]at e;exact bN e];exact a j x e n
theorem Le.st(a:Le H G)(h:H[k]?=Sa)(m:MO):Le H (G.set k m):=Up.st a h m
theorem eS(h:G[k]?=Y F')(m:MO):(G.set k m)[k]?=Y m:=by
 rw[alj (WC.mp h).1]
theorem ef(H:List MO)(m:MO):(H++[m])[H.length]?=Y m:=by simp
theorem iJ(H:List MO):H[H.length]?=Sa:=by simp
theorem vb(H:List MO)(m n:MO):(H++[m]).set H.length n=H++[n]:=by simp
end
def dO{a:Type}(ps es:List Nat)(H:List MO)(K:a->List MO->Prop)(X:KX)(x:Res a):Prop:=match x with
 | .stuck=>False
 | .ok v=>∀G,Up ps H G->K v G
 | .bad w r c=>∀G,Up es H G->X 164 (lj w r c) G
 | .left w r=>∀G,Up es H G->X 183 (zb w r) G
abbrev jT{a:Type}(ps:List Nat)(H:List MO)(K:a->List MO->Prop)(X:KX)(x:Res a):Prop:=dO ps ps H K X x
abbrev Out{a:Type}(H:List MO)(K:a->List MO->Prop)(X:KX)(x:Res a):Prop:=dO [] [] H K X x
abbrev d9{a:Type}(s:Nat)(H:List MO)(K:a->List MO->Prop)(X:KX)(x:Res a):Prop:=dO [s+2,s+3] [] H K X x
section
variable{α β:Type}{ps qs es fs:List Nat}{H G:List MO}{K:α->List MO->Prop}{X:KX}{x:Res α}
theorem Up.sub(h:Up qs H G)(s:∀k,bx k ps=UA->bx k qs=UA):Up ps H G:=λk m e n=>h k m e (s k n)
theorem dO.sub(h:dO ps es H K X x)(e:Le H G):dO ps es G K X x:=by
 cases x with
 |stuck=>exact h
 |ok v=>exactλF f=>h F (e.u.t f)
 |bad w r c=>exactλF f=>h F (e.u.t f)
 |left w r=>exactλF f=>h F (e.u.t f)
theorem dO.vt{K:β->List MO->Prop}{f:α->Res β}{a:α->List MO->Prop}(h:dO ps es H K X (x.bind f))(le:∀F,Up fs G F->Up es H F)(k:∀v F,Up qs G F->dO ps es H K X (f v)->a v F):dO qs fs G a X x:=by
 cases x with
 |stuck=>exact h
 |ok v=>exactλF e=>k v F e h
 |bad w r c=>exactλF e=>h F (le F e)
 |left w r=>exactλF e=>h F (le F e)
theorem dO.bdU{K:β->List MO->Prop}{f:α->Res β}{a:α->List MO->Prop}(h:dO ps es H K X (x.bind f))(le:Up es H G)(s:∀k,bx k es=UA->bx k qs=UA)(k:∀v F,Up qs G F->dO ps es H K X (f v)->a v F):jT qs G a X x:=h.vt (λF e=>le.t (e.sub s)) k
theorem dO.bd{K:β->List MO->Prop}{f:α->Res β}{a:α->List MO->Prop}(h:dO ps es H K X (x.bind f))(le:Up es H G)(k:∀v F,Le G F->dO ps es H K X (f v)->a v F):Out G a X x:=h.vt (λF e=>le.t (Le.u e)) k
theorem dO.bc{b:Bool}{y:Res α}{G:Prop}(h:dO ps es H K X (cond b x y))(k:b=W->dO ps es H K X x->G)(a:b=UA->dO ps es H K X y->G):G:=by
 induction b using cB with
 |true=>exact k rfl h
 |false=>exact a rfl h
theorem dO.gr(h:dO ps es H K X (gn b x)):b=W/\dO ps es H K X x:=by
 cases b with|true=>exact⟨rfl,h⟩|false=>exact h.elim
end
theorem ve{b:Type}(m:b->Nat)(I:b->En->List MO->Prop)(st:∀i e G (go:En->List MO->Prop),(∀j e' a,m j < m i->I j e' a->go e' a)->I i e G->T e G (λg H=>cP g (B e H (mz go K) X) (K .next e H)) (xE X e))(i:b)(hm:m i < 3000)(h:I i e G):gm T B e G K X:=by
 have A:∀n i e G,m i < n->I i e G->xf T B K X n e G:=by
  intro n;induction n with
  |zero=>intro i e G h;exact absurd h (amn _)
  |succ n l=>intro i e G hm h;exact st i e G _ (λj e' a lt f=>l j e' a (VT lt (alv hm)) f) h
 rw[J4];exact A 3000 i e G hm h
section
variable{K:bp}{X:KX}{H:List MO}
theorem Di(h:(bx C es&&bw fs 900)=W): mH n cs es (.ref H.length) v (H++[.exc C fs])=Y (H++[.exc C (fN n v fs)]):=by
 show alt (((H++[MO.exc C fs])[H.length]?).bind _ |>.bind _) (aps (((H++[MO.exc C fs])[H.length]?).bind _) _)=_;rw[ef];show alt Sa (gd (bx C es&&bw fs 900) (Y ((H++[MO.exc C fs]).set H.length _)))=_;rw[h,vb];rfl
theorem acy(xs:List O)(h:(bx C eB&&bw xs 100)=W): excIn eB (.ref H.length::xs) (H++[.exc C fs])=Y (H++[.exc C fs]):=by
 show aps (((H++[MO.exc C fs])[H.length]?).bind _) _=_;rw[ef];show gd (bx C eB&&bw xs 100) (Y ((H++[MO.exc C fs]).set H.length _))=_;rw[h,vb];rfl
theorem SG(h:(bx C eB&&oM fs)=W):SE eB (.ref H.length) (H++[.exc C fs])=Y (H.length,C,fs):=by
 show aps (((H++[MO.exc C fs])[H.length]?).bind _) _=_;rw[ef];show gd (bx C eB&&oM fs) _=_;rw[h];rfl
theorem fun1(h:b (some x::dS m) H (d6 K) λC fs _ H=>X C fs H):sl (bl 1 [] m b) [x] H K X:=by rw[dU];exact h
theorem fun2(h:b (some x::some y::dS m) H (d6 K) λC fs _ H=>X C fs H):sl (bl 2 [] m b) [x,y] H K X:=by rw[dU];exact h
theorem kM(h:b (some x::some y::some z::dS m) H (d6 K) λC fs _ H=>X C fs H):sl (bl 3 [] m b) [x,y,z] H K X:=by rw[dU];exact h
theorem pS(h:b (some x::some y::some z::some u::dS m) H (d6 K) λC fs _ H=>X C fs H):sl (bl 4 [] m b) [x,y,z,u] H K X:=by rw[dU];exact h
theorem adp(h:b (some x::some y::some z::some u::some v::dS m) H (d6 K) λC fs _ H=>X C fs H):sl (bl 5 [] m b) [x,y,z,u,v] H K X:=by rw[dU];exact h
theorem B5(h:b (some x::some y::some z::some u::some v::some w::dS m) H (d6 K) λC fs _ H=>X C fs H):sl (bl 6 [] m b) [x,y,z,u,v,w] H K X:=by rw[dU];exact h
end
def Ev{b:Type}(a:EM b)(e:En)(H:List MO)(v:b):Prop:=∀K X,K v H->a e H K X
def jr(as:List (EM O))(e:En)(H:List MO)(v:List O):Prop:=∀K X,K v H->Args as e H K X
section
variable{α:Type}{a b c:EM O}{p q r:EM Bool}{e:En}{H:List MO}{x y v:O}{s t:Bool}{i:Nat}
theorem af(h:e[i]?=Y (Y v)):Ev (Loc i) e H v:=λK X k=>oI (a:=v) (by rw[h];rfl) k
theorem ax:Ev (aL v) e H v:=λK X k=>k
theorem bc{b:Bool}{P:Prop}(h:b=W->P)(k:b=UA->P):P:=by cases b with|true=>exact h rfl|false=>exact k rfl
theorem bb{f:O->O->List MO->Option Bool}(j:Ev a e H x)(hb:Ev b e H y)(h:f x y H=Y t):Ev (aF f a b) e H t:=λK X k=>j _ _ (hb _ _ (oI h k))
theorem Bi{f:O->O->List MO->Option Bool}(j:Ev a e H x)(hb:Ev b e H y)(h:f x y H=Y t):Ev (gv f a b) e H (.bool t):=λK X k=>j _ _ (hb _ _ (oI h k))
theorem bB{f:O->O->List MO->Option O}(j:Ev a e H x)(hb:Ev b e H y)(h:f x y H=Y v):Ev (ao f a b) e H v:=λK X k=>j _ _ (hb _ _ (oI h k))
theorem Fg(f:Ev a e H x)(hb:Ev b e H y)(h:zw dK x y H=Y t):Ev (ju dK a b) e H (.bool t):=λK X k=>f _ _ (hb _ _ (oI h k))
theorem de(f:Ev a e H x)(h:jM x H=Y v):Ev (b7 a) e H v:=λK X k=>f _ _ (oI h k)
theorem tY{f:O->Option O}(j:Ev a e H x)(h:f x=Y v):Ev (Un f a) e H v:=λK X k=>j _ _ (oI h k)
theorem cu(f:Ev a e H x)(h:ix n cs es x H=Y v)(j:Dh v=W):Ev (aw n cs es a) e H v:=λK X k=>f _ _ (oI h (bI j k))
theorem acq(f:Ev a e H (.bool t))(q:(!t)=s):Ev (Ea a) e H (.bool s):=by subst q;exactλK X k=>f _ _ k
theorem mX(f:Ev p e H t)(q:(!t)=s):Ev (jv p) e H s:=by subst q;exactλK X k=>f _ _ k
theorem fP(f:Ev a e H x)(h:w7 x=Y t):Ev (cq a) e H t:=λK X k=>f _ _ (oI h k)
theorem gQ(f:Ev p e H UA):Ev (cQ p q) e H UA:=λK X k=>f _ _ k
theorem eY(f:Ev p e H W)(hb:Ev q e H t):Ev (cQ p q) e H t:=λK X k=>f _ _ (hb _ _ k)
theorem tX(f:Ev p e H W):Ev (fA p q) e H W:=λK X k=>f _ _ k
theorem kH(f:Ev p e H UA)(hb:Ev q e H t):Ev (fA p q) e H t:=λK X k=>f _ _ (hb _ _ k)
theorem aco(f:Ev a e H (.bool UA)):Ev (qD a b) e H (.bool UA):=λK X k=>f _ _ k
theorem NX(f:Ev a e H (.bool W))(hb:Ev b e H v):Ev (qD a b) e H v:=λK X k=>f _ _ (hb _ _ k)
theorem Bj(f:Ev a e H (.bool W)):Ev (nZ a b) e H (.bool W):=λK X k=>f _ _ k
theorem xZ(f:Ev a e H (.bool UA))(hb:Ev b e H v):Ev (nZ a b) e H v:=λK X k=>f _ _ (hb _ _ k)
theorem lp(f:Ev p e H W)(hb:Ev a e H v):Ev (cS p a b) e H v:=λK X k=>f _ _ (hb _ _ k)
theorem jz(f:Ev p e H UA)(hb:Ev b e H v):Ev (cS p a b) e H v:=λK X k=>f _ _ (hb _ _ k)
theorem aC:jr [] e H []:=λK X k=>k
theorem aj{as:List (EM O)}(f:Ev a e H x)(hb:jr as e H xs):jr (a::as) e H (x::xs):=λK X k=>f _ _ (hb _ _ k)
theorem c9{as:List (EM O)}(f:jr as e H xs)(h:fits xs=W):Ev (au as) e H (.tup xs):=λK X k=>f _ _ (bI h k)
theorem hS{as:List (EM O)}(f:jr as e H xs)(h:∀K X,K v H->F xs H K X):Ev (aA F as) e H v:=λK X k=>f _ _ (h _ _ k)
theorem tW{as:List (EM O)}(j:Ev a e H x)(hm:nA n tab x H=Y F)(f:jr as e H xs)(h:∀K X,K v H->F (x::xs) H K X):Ev (aM T n tab a as) e H v:=λK X k=>j _ _ (by
 show eP _ _ _;rw[hm];exact f _ _ (h _ _ k))
theorem acp{as:List (EM O)}(j:Ev a e H x)(hm:nA n tab x H=Sa)(hb:((qB x H).bind λt=>lu n t n5)=Y m)(f:jr as e H xs)(h:kC T m x xs H=Y (v,H)):Ev (aM T n tab a as) e H v:=λK X k=>j _ _ (by
 show eP _ _ _;rw[hm];exact oI hb (f _ _ (oI h k)))
theorem qW(f:Ev a e H x)(h1:Ev lo e H l)(h2:Ev hi e H h')(h3:Ev st e H s')(j:uZ l=Y lo')(m:uZ h'=Y hi')(w:uZ s'=Y st')(h:mF x lo' hi' st' H=Y v):Ev (fB a lo hi st) e H v:=λK X k=>f _ _ (h1 _ _ (h2 _ _ (h3 _ _ (oI j (oI m (oI w (oI h k)))))))
theorem cG{as:List (EM O)}{K:bp}(f:jr as e H xs)(h:F xs H K X):aA F as e H K X:=f _ _ h
theorem dB{as:List (EM O)}{K:bp}(j:Ev a e H x)(hm:nA n tab x H=Y F)(f:jr as e H xs)(h:F (x::xs) H K X):aM T n tab a as e H K X:=j _ _ (by
 show eP _ _ _;rw[hm];exact f _ _ h)
variable{A B C:SM}{K:KF}{X:KE}
theorem bM(h:Ev p e H W)(k:ak A C e H K X):ak (aY p A B) C e H K X:=h _ _ k
theorem zL(h:Ev p e H UA)(k:ak B C e H K X):ak (aY p A B) C e H K X:=h _ _ k
theorem bL(h:Ev p e H UA)(k:C e H K X):ak (aY p A bh) C e H K X:=h _ _ k
theorem lC(h:Ev p e H W)(k:A e H K X):aY p A B e H K X:=h _ _ k
theorem jH(h:Ev p e H UA)(k:B e H K X):aY p A B e H K X:=h _ _ k
theorem dz(h:Ev m e H v)(k:C (e.set i (Y v)) H K X):ak (bA i m) C e H K X:=h _ _ k
theorem fo(k:m e H (λv H=>C (e.set i (Y v)) H K X) (xE X e)):ak (bA i m) C e H K X:=k
theorem oX(h:Ev m e H (.tup xs))(q:nQ is xs e=Y e')(k:C e' H K X):ak (d8 is m) C e H K X:=h _ _ (oI q k)
theorem i6(k:m e H (λv H=>oP ((aT v).bind λvs=>nQ is vs e) λe=>C e H K X) (xE X e)):ak (d8 is m) C e H K X:=k
theorem c6(k:m e H (λ_ H=>C e H K X) (xE X e)):ak (ba m) C e H K X:=k
theorem cy(h:Ev m e H v)(k:K (.ret v) e H):aV m e H K X:=h _ _ k
theorem mN(h:Ev m e H v)(k:K (.ret v) e H):ak (aV m) C e H K X:=h _ _ k
theorem u9(k:m e H (λv H=>K (.ret v) e H) (xE X e)):aV m e H K X:=k
theorem qy(k:m e H (λv H=>K (.ret v) e H) (xE X e)):ak (aV m) C e H K X:=k
theorem Tp:lJ B (lJ C K X) X=lJ (ak B C) K X:=funext λfl=>by cases fl<;>rfl
theorem fW(k:ak A (ak B C) e H K X):ak (ak A B) C e H K X:=by
 show A e H (lJ B (lJ C K X) X) X;rw[Tp];exact k
theorem UC{K:bp}{X:KX}{C:Nat}{f:Str}(h1:bx C eB=W)(h2:bx C [144,164,183]=W)(h:K .none (H++[.exc C [(iR,.str f)]])):ub [.ref H.length,.str f] (H++[.exc C []]) K X:=by
 have a:(bx C eB&&bw [O.str f] 100)=W:=by rw[h1];rfl
 have b:(bx C [144,164,183]&&bw ([]:List (Str×O)) 900)=W:=by rw[h2];rfl
 unfold ub;refine fun2 ?_;show oP _ _;refine oI (acy [.str f] a) ?_;show oP _ _;refine oI (Di b) ?_;exact h
theorem afq{K:bp}{X:KX}{f:Str}{r c:Int}(h:K (.ref H.length) (H++[.exc 164 [(iR,.str f),(cZ,.int r),(df,.int c)]])):hJ [.str f,.int r,.int c] H K X:=by
 unfold hJ;rw[dU];show Bl _ _ _ _;unfold Bl;refine pS ?_;show ub _ _ _ _;refine UC rfl rfl ?_;show oP _ _;refine oI (Di rfl) ?_;show oP _ _;refine oI (Di rfl) ?_;exact h
theorem afr{K:bp}{X:KX}{f:Str}{r:Int}(h:K (.ref H.length) (H++[.exc 183 [(iR,.str f),(cg,.int r)]])):vz [.str f,.int r] H K X:=by
 unfold vz;rw[dU];show BD _ _ _ _;unfold BD;refine kM ?_;show ub _ _ _ _;refine UC rfl rfl ?_;show oP _ _;refine oI (Di rfl) ?_;exact h
theorem DC{as:List (EM O)}{f:Str}{r c:Nat}(h:jr as e H [.str f,.int r,.int c])(k:X 164 (lj f r c) e (H++[.dead])):gN eB (aA hJ as) e H K X:=h _ _ (by
 refine afq (oI (SG rfl) ?_);show X 164 _ e ((H++[_]).set H.length .dead);rw[vb];exact k)
theorem s9(h:e[i]?=Y (Y (aH it)))(hm:Ev m e H (.str why))(k:X 164 (lj why it.r it.c) e (H++[.dead])):gN eB (aA hJ [m,aw cZ [202,230,355] [164] (Loc i),aw df [202,230,355] [164] (Loc i)]) e H K X :=DC (aj hm (aj (cu (af h) (by cases it<;>rfl) rfl) (aj (cu (af h) (by cases it<;>rfl) rfl) aC))) k
theorem SA{as:List (EM O)}{f:Str}{r:Nat}(h:jr as e H [.str f,.int r])(k:X 183 (zb f r) e (H++[.dead])):gN eB (aA vz as) e H K X:=h _ _ (by
 refine afr (oI (SG rfl) ?_);show X 183 _ e ((H++[_]).set H.length .dead);rw[vb];exact k)
end
section
variable{w:OW}{r c:Nat}{H:List MO}{it:Itm}{is:List Itm}{k:Nat}{t u:Bool}{a b:Int}{s:So}{x y:Str}
theorem AL:ix eC [202] [] (aH (.tok w r c)) H=Y (.str w.1.sort.s):=rfl
theorem AM:ix b9 [202] [] (aH (.tok w r c)) H=Y (.str w.1.txt):=rfl
theorem aak:ix cZ [202,230,355] [164] (aH it) H=Y (.int it.r):=by cases it<;>rfl
theorem aah:ix df [202,230,355] [164] (aH it) H=Y (.int it.c):=by cases it<;>rfl
theorem vq:ix bY [230,355,522] [] (aH (.br is r c)) H=Y (.lst (aP is)):=rfl
theorem Uy{s:So}{t:Str}{v:Int}(h:eI s=W):s.v t v = .int v:=by cases s<;>first|rfl|exact bD h
theorem aal(h:eI w.1.sort=W):ix lA [202] [] (aH (.tok w r c)) H=Y (.int w.1.val):=by rw[←Uy h];rfl
theorem aey:zw iV (aH it) (.gl 202) H=Y (!Ip it):=by cases it<;>rfl
theorem lH(h:decide (a < b)=t):eL (.int a) (.int b) H=Y t:=congrArg Y h
theorem zt(h:decide (b < a)=t):mC (.int a) (.int b) H=Y t:=congrArg Y h
theorem Je(h:decide (b<=a)=t):kh (.int a) (.int b) H=Y t:=congrArg Y h
theorem C4(h:decide (a<=b)=t):iW (.int a) (.int b) H=Y t:=congrArg Y h
theorem sV(h:(x == y)=t):bf (.str x) (.str y) H=Y t:=congrArg Y h
theorem sW(h:(x == y)=t)(q:(!t)=u):dk (.str x) (.str y) H=Y u:=by rw[←q,←h];rfl
theorem abt{a b:Bool}{P:Prop}(h:cond a b UA=W)(k:a=W->b=W->P):P:=by
 induction a with
 |false=>exact bD h
 |true=>exact k rfl h
theorem ahK(h:eI s=W):s.s=jG:=by cases s<;>first|rfl|exact bD h
theorem ahJ(h:eD s=W):s.s=je:=by cases s<;>first|rfl|exact bD h
theorem ahO(h:nW s=UA):s.s=gF:=by cases s<;>first|rfl|exact bD h.symm
theorem ahP(h:eD s=W):xI s=W:=by cases s<;>first|rfl|exact bD h
theorem ahL(h:eI s=UA)(k:eD s=UA):xI s=UA:=by cases s<;>first|rfl|exact bD h.symm|exact bD k.symm
theorem ahM(h:nW s=W)(k:xI s=UA):s.s=u5:=by cases s<;>first|rfl|exact bD h|exact bD k.symm
theorem ahN(x:Str)(i:Int)(h:eI s=UA):s.v x i = .str x:=by cases s<;>first|rfl|exact bD h.symm
theorem afP(h:nW s=t)(q:(!t)=u):bf (.str s.s) (.str gF) H=Y u:=by rw[←q,←h];cases s<;>rfl
theorem Jf(h:nW s=t):dk (.str s.s) (.str gF) H=Y t:=by rw[←h];cases s<;>rfl
theorem afN(h:eI s=t):bf (.str s.s) (.str jG) H=Y t:=by rw[←h];cases s<;>rfl
theorem afQ(h:eI s=t)(q:(!t)=u):dk (.str s.s) (.str jG) H=Y u:=by rw[←q,←h];cases s<;>rfl
theorem Jd(h:eD s=t):bf (.str s.s) (.str je) H=Y t:=by rw[←h];cases s<;>rfl
theorem afO(h:eR s=t):bf (.str s.s) (.str u5) H=Y t:=by rw[←h];cases s<;>rfl
theorem nD(h:(a == b)=t):bf (.int a) (.int b) H=Y t:=congrArg Y h
theorem Qp:cI az (.str s.s) (.tup [.str jG,.str je]) H=Y (xI s):=by cases s<;>rfl
end
end
local macro_rules | `(tactic|walk_at "o")=>`(tactic|first|with_reducible assumption|(with_reducible first|apply aex|apply aey|apply Qp|apply AL|apply AM|apply vq|apply aak|apply aah)|((with_reducible first|apply j9|apply lF|apply aal|apply lH|apply Je|apply afP|apply Jf|apply afN|apply afQ|apply Jd|apply afO|apply zt|apply C4|apply sV|apply nD|apply sW|apply o_nei)<;>first|with_reducible assumption|exact rfl|(with_reducible (first|apply Jr|apply Js|apply agm|apply agn)<;>assumption))|exact rfl|((first|apply Qp|apply lF|apply sV|apply lH)<;>with_reducible assumption))
local macro_rules | `(tactic|walk_at "e")=>`(tactic|first|with_reducible assumption|((with_reducible first|apply ax|apply aC|apply af|apply bb|apply Bi|apply bB|apply Fg|apply de|apply cu|apply tY|apply fP|apply mX|apply acq|apply c9|apply hS|apply tW|apply aj)<;>walk_at "e")|((with_reducible first|apply gQ|apply tX|apply aco|apply Bj|apply lp)<;>walk_at "e")|((with_reducible first|apply eY|apply kH|apply NX|apply xZ|apply jz)<;>walk_at "e")|walk_at "o" |exactλ_ _ h=>h)
section
open PySem PySem.W
section
variable{K:bp}{X:KX}{H:List MO}{is:List Itm}{k:Nat}{it:Itm}{t:List Itm}
theorem FA(h:b (some x::some y::some d::dS m) H (d6 K) λC fs _ H=>X C fs H):sl (bl 3 [d] m b) [x,y] H K X:=by rw[dU];exact h
def iK{b:Type}(a:Str):Itm->Res b
 | .br _ r c=>.bad a r c
 | .tok w r c=>.bad (cond (a == aq) (cond (eR w.1.sort) eN a) a) r c
noncomputable abbrev odd{α:Type}(it:Itm):Res α:=iK aq it
theorem dO.kB{a:Type}{K:a->List MO->Prop}(h:dO ps es H K X (.bad why r c)):X 164 (lj why r c) (H++[.dead]):=h _ (Up.r.nn .dead)
theorem gU{e:Type}{K0:e->List MO->Prop}(h:Out H K0 X (iK why it)):eg [.str why,aH it] H K X:=by
 unfold eg;refine fun2 (bc (b:=why == aq) (λhq=>?_) λhq=>?_)
 .cases it with
  |br is r c=>exact bL (by walk_at "e") (s9 rfl (af rfl) h.kB)
  |tok w r c =>
   have h:X 164 (lj (cond (why == aq) (cond (eR w.1.sort) eN why) why) r c) _:=h.kB;rw[hq]at h;refine bc (b:=eR w.1.sort) (λa=>?_) λa=>?_
   .rw[a]at h;exact bM (by walk_at "e") (s9 rfl ax h)
   .rw[a]at h;exact bL (by walk_at "e") (s9 rfl (af rfl) h)
 .refine bL (by walk_at "e") (s9 rfl (af rfl) ?_);cases it with
  |br is r c=>exact h.kB
  |tok w r c =>
   have h:X 164 (lj (cond (why == aq) (cond (eR w.1.sort) eN why) why) r c) _:=h.kB;rw[hq]at h;exact h
theorem wO{b:Type}{K0:b->List MO->Prop}(hm:Ev m e H (.str why))(a:e[j]?=Y (Y (aH it)))(h:Out H K0 (xE XE' e) (iK why it)):ak (ba (aA eg [m,Loc j])) B e H KF' XE' :=c6 (cG (aj hm (aj (af a) aC)) (gU h))
def xe:Itm->Res Int
 | .br is r c=>odd (.br is r c)
 | .tok w r c=>cond (nW w.1.sort) (odd (.tok w r c)) (cond w.1.ln (.left w.1.txt r) (match w.1.kd with|none=>odd (.tok w r c)|some k=>.ok k))
theorem Uz(h:Out H (λk=>K (.int k)) X (xe it)):lZ [aH it] H K X:=by
 unfold lZ;refine fun1 ?_;cases it with
 |br is r c=>exact bM (by walk_at "e") (wO (it:=.br is r c) ax rfl h)
 |tok w r c =>
  have h:Out H (λk=>K (.int k)) X (cond (nW w.1.sort) (odd (.tok w r c)) (cond w.1.ln (.left w.1.txt r) (match w.1.kd with|none=>odd (.tok w r c)|some k=>.ok k))):=h;refine bc (b:=nW w.1.sort) (λe=>?_) λe=>?_
  .rw[e]at h;exact bM (by walk_at "e") (wO (it:=.tok w r c) ax rfl h)
  .rw[e]at h;have h1:Ev (aA yl [aw b9 [202] [] ai]) (Y (aH (.tok w r c))::dS 1) H (.bool w.1.ln):=hS (by walk_at "e") λK X k=>ll w.2.ln k;refine bL (by walk_at "e") ?_;refine bc (b:=w.1.ln) (λa=>?_) λa=>?_
   .rw[a]at h h1;exact bM (by walk_at "e") (SA (by walk_at "e") (h _ (Le.n H .dead)))
   .rw[a]at h h1;refine bL (by walk_at "e") (dz (v:=mB w.1.kd) (hS (by walk_at "e") λK X k=>ll w.2.kd k) ?_);cases f:w.1.kd with
    |none=>rw[f]at h;exact bM (by walk_at "e") (wO (it:=.tok w r c) ax rfl h)
    |some k=>rw[f]at h;exact bL (by walk_at "e") (cy (by walk_at "e") (h H Up.r))
def dQ:Itm->Str
 | .br (.tok w _ _::_) _ _=>cond (nW w.1.sort) fj w.1.txt
 |_=>fj
def fL:List Itm->Bool
 | .tok w _ _::_=>xI w.1.sort
 |_=>UA
theorem OF(p:Ps is k t)(h:K (.bool (fL t)) H):kK [.lst (aP is),.int k] H K X:=by
 unfold kK;refine fun2 ?_;cases t with
 |nil=>exact cy (v:=.bool UA) (by walk_at "e") h
 |cons it r=>cases it with
  |br is r c=>exact cy (v:=.bool UA) (by walk_at "e") h
  |tok w r c=>exact cy (v:=.bool (xI w.1.sort)) (by walk_at "e") h
theorem CN(p:Ps is k t)(f:Ev a e H (.lst (aP is)))(hb:Ev b e H (.int k)):Ev (aA kK [a,b]) e H (.bool (fL t)):=hS (aj f (aj hb aC)) λK X k=>OF p k
def lD(tk:Itm):List Itm->Res Itm
 | []=>odd tk
 |it::r=>cond (fL (it::r)) (.ok it) (odd it)
theorem yY(p:Ps is k t)(h:Out H (λx=>K (aH x)) X (lD tk t)):vN [.lst (aP is),.int k,aH tk] H K X:=by
 unfold vN;refine kM ?_;have hx:=CN (H:=H) p (af rfl) (af rfl) (e:=Y (.lst (aP is))::Y (.int k)::Y (aH tk)::dS 0) (a:=Loc 0) (b:=Loc 1);cases t with
 |nil=>exact bM (by walk_at "e") (c6 (cG (by walk_at "e") (gU (K0:=λx=>K (aH x)) h)))
 |cons it r =>
  have h:Out H (λx=>K (aH x)) X (cond (fL (it::r)) (.ok it) (odd it)):=h;refine bc (b:=fL (it::r)) (λf=>?_) λf=>?_
  .rw[f]at h hx;exact bL (by walk_at "e") (cy (by walk_at "e") (h H Up.r))
  .rw[f]at h hx;exact bM (by walk_at "e") (c6 (cG (by walk_at "e") (gU (K0:=λx=>K (aH x)) h)))
def zY:List Itm->Str
 | .tok w _ _::_=>cond (nW w.1.sort) fj w.1.txt
 |_=>fj
theorem aiE(p:Ps is k t)(h:K (.str (zY t)) H):pO [.lst (aP is),.int k] H K X:=by
 unfold pO;refine fun2 ?_;cases t with
 |nil=>exact bM (by walk_at "e") (cy ax h)
 |cons it r=>cases it with
  |br is r c=>exact bM (by walk_at "e") (cy ax h)
  |tok w r c =>
   have h:K (.str (cond (nW w.1.sort) fj w.1.txt)) H:=h;refine bc (b:=nW w.1.sort) (λa=>?_) λa=>?_
   .rw[a]at h;exact bM (by walk_at "e") (cy ax h)
   .rw[a]at h;exact bL (by walk_at "e") (cy (by walk_at "e") h)
theorem MJ(s:gX (.br is r c)=W)(h:K (.str (dQ (.br is r c))) H):vI [aH (.br is r c)] H K X:=by
 unfold vI;refine fun1 ?_;have p:=Ps.of s;have f:=j9 p H;cases is with
 |nil =>
  exact dz (v:=.none) (by walk_at "e") (cy (by walk_at "e") h)
 |cons it rest =>
  have e:mC (.int ((it::rest).length:Nat)) (.int 0) H=Y W:=zt (ab8 (ap4.mpr (aoI _)));refine dz (v:=aH it) (by walk_at "e") ?_;cases it with
  |br is r c=>exact cy (by walk_at "e") h
  |tok w r c =>
   have h:K (.str (cond (nW w.1.sort) fj w.1.txt)) H:=h;refine bc (b:=nW w.1.sort) (λa=>?_) λa=>?_
   .rw[a]at h;exact cy (by walk_at "e") h
   .rw[a]at h;exact cy (by walk_at "e") h
theorem adI(s:gX it=W)(h:K (.str (dQ it)) H):n7 [aH it] H K X:=by
 unfold n7;refine fun1 ?_;cases it with
 |tok w r c=>exact cy (by walk_at "e") h
 |br is r c =>
  have hm:Ev ar5 (Y (aH (.br is r c))::dS 0) H (.str (dQ (.br is r c))):=tW (af rfl) rfl aC λK X k=>MJ s k;exact cy (by walk_at "e") h
theorem oa(s:gX it=W)(b:Ev a e H (aH it)):Ev (aA n7 [a]) e H (.str (dQ it)):=hS (aj b aC) λK X k=>adI s k
noncomputable def CK:Itm->Bool | .tok w _ _=>eI w.1.sort | .br ..=>UA
noncomputable def Qj:Itm->Bool | .tok w _ _=>eD w.1.sort | .br ..=>UA
theorem aev(h:K (.bool (CK it)) H):lr [aH it,.str jG] H K X:=by
 unfold lr;refine FA ?_;cases it with
 |br is r c=>exact cy (by walk_at "e") h
 |tok w r c =>
  have h:K (.bool (eI w.1.sort)) H:=h;refine bc (b:=eI w.1.sort) (λa=>?_) λa=>?_
  .rw[a]at h;exact cy (by walk_at "e") h
  .rw[a]at h;exact cy (by walk_at "e") h
theorem aeu(h:K (.bool (Qj it)) H):lr [aH it,.str je] H K X:=by
 unfold lr;refine FA ?_;cases it with
 |br is r c=>exact cy (by walk_at "e") h
 |tok w r c =>
  have h:K (.bool (eD w.1.sort)) H:=h;refine bc (b:=eD w.1.sort) (λa=>?_) λa=>?_
  .rw[a]at h;exact cy (by walk_at "e") h
  .rw[a]at h;exact cy (by walk_at "e") h
theorem P5(b:Ev a e H (aH it)):Ev (aA lr [a,J jG]) e H (.bool (CK it)):=hS (aj b (aj ax aC)) λK X k=>aev k
theorem ad1(b:Ev a e H (aH it)):Ev (aA lr [a,J je]) e H (.bool (Qj it)):=hS (aj b (aj ax aC)) λK X k=>aeu k
def DV(w:Wd)(r c:Nat):Res Int :=cond (eI w.sort) (cond w.sg (.bad aq r c) (cond (decide ((4294967296:Int)<=w.val)) (.bad iU r c) (.ok w.val))) (.bad aq r c)
theorem J0(h:Out H (λv=>K (.int v)) X (DV w.1 r c)):vP [aH (.tok w r c)] H K X:=by
 unfold vP;refine fun1 ?_;have hi:=P5 (e:=Y (aH (.tok w r c))::dS 0) (H:=H) (a:=Loc 0) (it:=.tok w r c) (af rfl);have hi:Ev _ _ _ (O.bool (eI w.1.sort)):=hi;have h:Out H (λv=>K (.int v)) X (cond (eI w.1.sort) (cond w.1.sg (.bad aq r c) (cond (decide ((4294967296:Int)<=w.1.val)) (.bad iU r c) (.ok w.1.val))) (.bad aq r c)):=h;have p:∀{A B:SM}{K:KF}{f:Str}{m:EM Bool},Ev m (Y (aH (.tok w r c))::dS 0) H W->X 164 (lj f r c) (H++[.dead])->ak (aY m (gN eB (aA hJ [J f,aw cZ [202,230,355] [164] ai,aw df [202,230,355] [164] ai])) A) B (Y (aH (.tok w r c))::dS 0) H K (λC fs _ H=>X C fs H):=λhm hx=>bM hm (s9 (it:=.tok w r c) rfl ax hx);refine h.bc (λi h=>?_) λi h=>?_
 .rw[i]at hi;refine aU (w.2.Tv i H) λv h1 h2=>?_;refine bc (b:=w.1.sg) (λj=>?_) λj=>?_
  .rw[j]at h h2;exact p (by walk_at "e") h.kB
  .rw[j]at h h2;refine bL (by walk_at "e") ?_;have x:nG (.int 2) (.int 32) H=Y (.int 4294967296):=by kernel_rfl!
   refine bc (b:=decide ((4294967296:Int)<=w.1.val)) (λl=>?_) λl=>?_
   .rw[l]at h;exact p (by walk_at "e") h.kB
   .rw[l]at h;exact bL (by walk_at "e") (cy (by walk_at "e") (h H Up.r))
 .rw[i]at hi;exact p (by walk_at "e") h.kB
end
end
section
open PySem PySem.W PyProof.Rows PySem.Calls
section
theorem RI(xs:List O){lo hi:Option Int}{a b:Nat}(e:akO lo hi Sa xs.length=((a:Int),(b:Int),1)):oS xs lo hi Sa=(xs.drop a).take (b - a):=by
 unfold oS;rw[e];have:=pick_run xs.toArray a (b - a);simp only[sliceRange_one]
 simpa using this
theorem agd(xs:List O)(e:a<=b)(hb:b<=xs.length):oS xs (Y a) (Y b) Sa=(xs.drop a).take (b - a):=by
 refine RI xs ?_;rw[apf];simp only[aqP,clipAt_nat,anP hb,anP (VR e hb)]
theorem pick_from(xs:List O){a:Nat}(e:a<=xs.length):oS xs (Y a) Sa Sa=xs.drop a:=by
 have:=RI xs (lo:=Y (a:Int)) (hi:=Sa) (a:=a) (b:=xs.length) (by rw[apf];simp only[aqP,clipAt_nat,anP e]);rw[this,List.take_of_length_le (by rw[anC];exact VJ _)]
end
theorem NN(is:List Itm)(k:Nat):(aP is).drop k=aP (is.drop k):=by rw[pJ,pJ,List.map_drop]
theorem ab7(is:List Itm)(k:Nat):(aP is).take k=aP (is.take k):=by rw[pJ,pJ,List.map_take]
theorem JN{k:Nat}(p:Ps is k t)(H:List MO):mF (.lst (aP is)) (Y (k:Int)) Sa Sa H=Y (.lst (aP t)):=by
 show alt Sa (alt (gd (bX UA&&fits (aP is)) (Y (O.lst (oS (aP is) (Y (k:Int)) Sa Sa)))) _)=_;rw[Fu p.s,pick_from _ (by rw[lX];exact p.b),NN,p.d];rfl
section
variable{K:bp}{X:KX}{H:List MO}{is:List Itm}{k:Nat}{it:Itm}{t:List Itm}
def p9(acc:List Int):List Itm->Res (List Int)
 | []=>.ok acc
 |it::r=>(xe it).bind λk=>p9 (acc++[k]) r
noncomputable def iA(l:List Int):List O:=l.map .int
theorem nh(a b:List Int):iA (a++b)=iA a++iA b:=akG
theorem M8(j:H[k0]?=Sa):∀(t:List Itm) (acc:List Int) (G:List MO),acc.length+t.length<=4000->Le H G->G[k0]?=Y (.lst (iA acc))-> Out H (λks=>K (.lst (iA ks))) X (p9 acc t)->pF (aA lZ [ai]) [] q k0 (λG=>lY k0 G K) X (aP t) G:=by
 intro t;induction t with
 |nil =>
  intro acc G _ le b h;show oP _ _;exact oI (a:=iA acc) (by rw[b];rfl) (h _ (le.st j .dead))
 |cons it r p =>
  intro acc G i le b h;conv=>whnf
  have h:Out H (λks=>K (.lst (iA ks))) X ((xe it).bind λk=>p9 (acc++[k]) r):=h;refine Uz (h.bd le λv F e h=>?_);have f:=e.g b;have l:fits (iA acc)=W:=c8 (by unfold iA;rw[VO];exact VR (akx _ _) (VR i (by decide)));have m:qQ k0 (.int v) F=Y (F.set k0 (.lst (iA (acc++[v])))):=by
   unfold qQ;rw[f];show gd (fits (iA acc)) _=_;rw[l,nh];rfl
  refine oI m ?_;exact p (acc++[v]) _ (by rw[VK];exact VR (ak4 (anE _ _)) i) ((le.t e).st j _) (eS f _) h
theorem abr(b:Ev a e H (.lst (aP t)))(f:t.length<=2000)(h:Out H (λks=>K (.lst (iA ks))) X (p9 [] t)):gw (iQ a) [] (aA lZ [ai]) [] e H K X:=by
 refine cast xU.symm (oI (a:=[]) rfl (b _ _ (oI (a:=aP t) rfl ?_)));exact M8 (iJ H) t [] _ (VR (ak4 (akE _)) (VR f (by decide))) (Le.n H _) (ef H _) h
def sP:Itm->Res (List Int)
 | .br (_::t) _ _=>p9 [] t
 |_=>.stuck
theorem Qv(s:gX it=W)(h:Out H (λks=>K (.lst (iA ks))) X (sP it)):uc [aH it] H K X:=by
 unfold uc;refine fun1 ?_;cases it with
 |tok w r c=>exact h.elim
 |br is r c=>cases is with
  |nil=>exact h.elim
  |cons it is =>
   have p:=Ps.of s;have a:mF (.lst (aP (it::is))) (Y 1) Sa Sa H=Y (.lst (aP is)):=JN p.nx H;refine u9 (abr (qW (by walk_at "e") ax ax ax rfl rfl rfl a) (by have:=p.s;simp only[WB]at *;lia) h)
def tT(u:Wd)(it:Itm):Res Int:=match u.num with
 |none=>iK eN it
 |some n=>cond (decide (4294967295 < n)) (iK iU it) (.ok n)
theorem Nk{w:OW}{it:Itm}(f:(w.1.off||w.1.al)=W)(h:Out H (λv=>K (.int v)) X (tT w.1 it)):vL [.str w.1.cut,aH it] H K X:=by
 unfold vL;refine fun2 ?_;unfold Et;refine dz (v:=mB w.1.num) (λK X k=>ll (w.2.num f _) k) ?_;unfold tT at h;cases e:w.1.num with
 |none=>rw[e]at h;exact bM (by walk_at "e") (wO ax rfl h)
 |some n =>
  rw[e]at h;rw[show mB (Y n)=O.int n from rfl];refine bL (by walk_at "e") ?_;have h:Out H (λv=>K (.int v)) X (cond (decide (4294967295 < n)) (iK iU it) (.ok n)):=h;refine bc (b:=decide (4294967295 < n)) (λa=>?_) λa=>?_
  .rw[a]at h;exact bM (by walk_at "e") (wO ax rfl h)
  .rw[a]at h;exact bL (by walk_at "e") (cy (by walk_at "e") (h H Up.r))
def Fj(u:Wd)(it:Itm):Res Int:=cond u.np (iK ng it) (.ok u.ex)
theorem acA{w:OW}{it:Itm}(b:(w.1.al&&bX (kZ w.1.num))=W)(h:Out H (λv=>K (.int v)) X (Fj w.1 it)):yk [.int (oZ w.1.num),aH it] H K X:=by
 unfold yk;refine fun2 (dz ax ?_);refine ll (w.2.exw b (aH it) _) ?_;unfold Fj at h;have a:Ev ar1 (vd w.1 (aH it) w.1.ex) H w.1.np:=λK X k=>ll (w.2.npT b _) k;refine h.bc (λhb h=>?_) λhb h=>?_
 .rw[hb]at a;exact bM a (wO ax rfl h)
 .rw[hb]at a;exact bL a (cy (by walk_at "e") (h H Up.r))
noncomputable def jb:Bool->Int|true=>9223372036854775808|false=>2147483648
def Cz(b:Bool)(w:Wd)(r c:Nat):Res Int :=cond (decide (-jb b<=w.val)) (cond (decide (w.val < cond w.sg (jb b) (2 * jb b))) (.ok (cond (decide (jb b<=w.val)) (w.val - 2 * jb b) w.val)) (.bad jF r c)) (.bad jF r c)
theorem NY{f g:O->O->List MO->Option Bool}(i:Ev a e H x)(hb:Ev b e H y)(h:f x y H=Y UA):Ev (qE f g a b c) e H UA:=λK X k=>i _ _ (hb _ _ (oI h k))
theorem Bh{f g:O->O->List MO->Option Bool}{a b c:EM O}{e:En}{x y z:O}{t:Bool}(i:Ev a e H x)(hb:Ev b e H y)(h:f x y H=Y W)(j:Ev c e H z)(h2:g y z H=Y t):Ev (qE f g a b c) e H t:=λK X k=>i _ _ (hb _ _ (oI h (j _ _ (oI h2 k))))
theorem aeh(l:eI w.1.sort=W)(h:Out H (λv=>K (.int v)) X (Cz b w.1 r c)):BI [aH (.tok w r c),.int (cond b 64 32)] H K X:=by
 unfold BI;refine fun2 ?_;have hi:Ev _ _ _ (O.bool (CK (.tok w r c))):=P5 (e:=Y (aH (.tok w r c))::Y (.int (cond b 64 32))::dS 2) (H:=H) (a:=Loc 0) (it:=.tok w r c) (af rfl);rw[show CK (.tok w r c)=W from l]at hi;refine aU (w.2.Tv l H) λv h1 h2=>?_;have y:jN (.int (cond b 64 32)) (.int 1) H=Y (.int (cond b 64 32 - 1)):=rfl;have e1:C7 (.int 1) (.int (cond b 64 32 - 1)) H=Y (.int (jb b)):=by cases b<;>rfl
 refine bL (by walk_at "e") (dz (v:=.int (jb b)) (by walk_at "e") ?_);refine dz (v:=.int (cond w.1.sg (jb b) (2 * jb b))) ?_ ?_
 .refine bc (b:=w.1.sg) (λi=>?_) λi=>?_
  .rw[i]at h2 ⊢;walk_at "e"
  .rw[i]at h2 ⊢;walk_at "e"
 unfold Cz at h;have m:∀{p:EM Bool}{A B:SM}{K:KF}{e:En},e[0]?=Y (Y (aH (.tok w r c)))->Ev p e H W->X 164 (lj jF r c) (H++[.dead])->ak (aY p (gN eB (aA hJ [J jF,arn,arp])) A) B e H K (λC fs _ H=>X C fs H):=λhe x hx=>bM x (s9 he ax hx);refine h.bc (λf h=>?_) λf h=>?_
 .have h:Out H (λv=>K (.int v)) X (cond (decide (w.1.val < cond w.1.sg (jb b) (2 * jb b))) (.ok (cond (decide (jb b<=w.1.val)) (w.1.val - 2 * jb b) w.1.val)) (.bad jF r c)):=h;refine h.bc (λj h=>?_) λj h=>?_
  .refine bL (mX (Bh (by walk_at "e") (by walk_at "e") (C4 f) (by walk_at "e") (lH j)) rfl) ?_;refine cy (v:=.int (cond (decide (jb b<=w.1.val)) (w.1.val - 2 * jb b) w.1.val)) ?_ (h H Up.r);refine bc (b:=decide (jb b<=w.1.val)) (λhm=>?_) λhm=>?_
   .rw[hm];show Ev _ _ _ (O.int (w.1.val - 2 * jb b));walk_at "e"
   .rw[hm];show Ev _ _ _ (O.int w.1.val);walk_at "e"
  .exact m rfl (mX (Bh (by walk_at "e") (by walk_at "e") (C4 f) (by walk_at "e") (lH j)) rfl) h.kB
 .exact m rfl (mX (NY (by walk_at "e") (by walk_at "e") (C4 f)) rfl) h.kB
end
end
section
open PySem PySem.W
section
variable{K:bp}{X:KX}{H:List MO}{is:List Itm}{k:Nat}{it:Itm}{t:List Itm}
def kI(is:List Itm)(K:bp)(p:List Int×List Itm)(G:List MO):Prop:=∀a,Ps is a p.2->K (.tup [.tup (iA p.1),.int a]) G
theorem swo(h:cJ w)(s:nW w.sort=UA):af6 w.txt nL=w.off:=by
 have:=h.swO s (H:=[]);have this:Y (O.bool (af6 w.txt nL),([]:List MO))=Y (.bool w.off,[]):=this;injection this with e;injection e with e;injection e
theorem swa(h:cJ w)(s:nW w.sort=UA):af6 w.txt mJ=w.al:=by
 have:=h.swA s (H:=[]);have this:Y (O.bool (af6 w.txt mJ),([]:List MO))=Y (.bool w.al,[]):=this;injection this with e;injection e with e;injection e
def C5:List Itm->Bool
 | .tok u _ _::_=>cond (nW u.1.sort) UA u.1.off
 |_=>UA
def AH:List Itm->Bool
 | .tok u _ _::_=>cond (nW u.1.sort) UA u.1.al
 |_=>UA
theorem Ka:af6 fj nL=UA:=by decide +kernel
theorem J9:af6 fj mJ=UA:=by decide +kernel
theorem aia(t:List Itm):af6 (zY t) nL=C5 t:=by
 cases t with
 |nil=>exact Ka
 |cons it r=>cases it with
  |br=>exact Ka
  |tok u r c =>
   show af6 (cond (nW u.1.sort) fj u.1.txt) nL=cond (nW u.1.sort) UA u.1.off;cases a:nW u.1.sort with
   |true=>exact Ka
   |false=>exact swo u.2 a
theorem ah7(t:List Itm):af6 (zY t) mJ=AH t:=by
 cases t with
 |nil=>exact J9
 |cons it r=>cases it with
  |br=>exact J9
  |tok u r c =>
   show af6 (cond (nW u.1.sort) fj u.1.txt) mJ=cond (nW u.1.sort) UA u.1.al;cases a:nW u.1.sort with
   |true=>exact J9
   |false=>exact swa u.2 a
def Jh(t:List Itm):Res (Int×List Itm):=cond (C5 t) (match t with
 | .tok u r c::a=>(tT u.1 (.tok u r c)).bind λn=>.ok (n,a)
 |_=>.stuck) (.ok (0,t))
def AI(a:Int)(t:List Itm):Res (Int×List Itm):=cond (AH t) (match t with
 | .tok u r c::b=>(tT u.1 (.tok u r c)).bind λn=>(Fj u.1 (.tok u r c)).bind λe=>.ok (e,b)
 |_=>.stuck) (.ok (a,t))
def CX(w:Wd)(t:List Itm):Res (List Int×List Itm):=(Jh t).bind λp=>(AI w.nat p.2).bind λq=>.ok ([oN w.code,q.1,p.1],q.2)
theorem afT(h:C5 t=W):∃u r c b,t = .tok u r c::b/\nW u.1.sort=UA/\u.1.off=W:=by
 match t,h with
 | .tok u r c::b,h =>
  have h:cond (nW u.1.sort) UA u.1.off=W:=h;cases a:nW u.1.sort with
  |true=>rw[a]at h;exact bD h
  |false=>rw[a]at h;exact⟨u,r,c,b,rfl,a,h⟩
theorem ZZ(h:AH t=W):∃u r c b,t = .tok u r c::b/\nW u.1.sort=UA/\u.1.al=W:=by
 match t,h with
 | .tok u r c::b,h =>
  have h:cond (nW u.1.sort) UA u.1.al=W:=h;cases a:nW u.1.sort with
  |true=>rw[a]at h;exact bD h
  |false=>rw[a]at h;exact⟨u,r,c,b,rfl,a,h⟩
theorem DH{i a j:Type}{f:i->Res a}{K:a->List MO->Prop}{b:j->List MO->Prop}(h:Out H K X ((iK why it).bind f))(le:Le H G):Out G b X (iK why it):=by
 cases it with
 |br=>exactλF e=>h F (le.t e)
 |tok=>exactλF e=>h F (le.t e)
theorem Na{j:Type}{f:Int->Res j}{K:j->List MO->Prop}{b:Int->List MO->Prop}(h:Out H K X ((tT u it).bind f))(le:Le H G)(k:∀n F,Le G F->u.num=Y n->Out H K X (f n)->b n F):Out G b X (tT u it):=by
 unfold tT at *;cases a:u.num with
 |none=>rw[a]at h;exact DH h le
 |some n =>
  rw[a]at h;cases i:decide (4294967295 < n) with
  |true=>simp only[i,cond_true]at h ⊢;exact DH h le
  |false=>simp only[i,cond_false]at h ⊢;exactλF e=>k n F e a h
theorem Res.tQ{b e h:Type}{x:Res b}{f:b->Res e}{g:e->Res h}:(x.bind f).bind g=x.bind λa=>(f a).bind g:=by cases x<;>rfl
theorem Res.yz{a e:Type}{x:Res a}{f:a->Res e}:(gn b x).bind f=gn b (x.bind f):=by cases b<;>rfl
theorem Res.Rr{b e:Type}{a:b}{f:b->Res e}:(Res.ok a).bind f=f a:=rfl
theorem UE(p:Ps is k t)(f:Ev a e H (.lst (aP is)))(hb:Ev b e H (.int k)):Ev (aA pO [a,b]) e H (.str (zY t)):=hS (aj f (aj hb aC)) λK X k=>aiE p k
theorem DR(p:Ps is k t)(f:Ev a e H (.lst (aP is)))(hb:Ev b e H (.int k))(h:af6 (zY t) s=u):Ev (cq (aM aJ DA [] (aA pO [a,b]) [J s])) e H u:=by
 refine fP (x:=.bool u) ?_ rfl;refine acp (m:=.sw) (UE p f hb) rfl ?_ (aj ax aC) ?_
 .show lu _ "str" n5=_
  kernel_rfl!
 .rw[←h];rfl
theorem afp{A:O}{w:OW}(L:nW w.1.sort=UA)(hm:w.1.aZ.y0=W)(p:Ps is k t)(h:Out H (kI is K) X (CX w.1 t)):Bs [A,.int (oN w.1.code),.lst (aP is),.int k] H K X:=by
 unfold Bs;refine pS (oX (xs:=[.int 0,.int w.1.nat]) (c9 (aj ax (aj (hS (aj (af rfl) aC) λK X k=>ll (w.2.nat L hm) k) aC)) rfl) rfl ?_);unfold CX at h;have tail:∀{x:Nat}{m:List Itm}{i:Int}{G:List MO},Ps is x m->Le H G->Out H (kI is K) X ((AI w.1.nat m).bind λq=>.ok ([oN w.1.code,q.1,i],q.2)) ->
   ari [Y A,Y (.int (oN w.1.code)),Y (.lst (aP is)),Y (.int x),Y (.int i),Y (.int w.1.nat)] G (d6 K) (λC fs _ H=>X C fs H):=by
  intro x m i G p le h;have q:=ah7 m;refine bc (b:=AH m) (λj=>?_) λj=>?_
  .rw[j]at q;refine RE (ZZ j) λu r c N f M z=>?_;subst f;unfold AI at h;rw[j]at h;simp only[cond_true,Res.tQ,Res.Rr]at h;have a:=u.2.abx z (H:=G);refine bM (DR p (af rfl) (af rfl) q) (fW (fo ?_));refine qW (v:=.str u.1.cut) (by walk_at "e") ax ax ax rfl rfl rfl a _ _ ?_;refine(show Ev (ao (aN az) aB aW) _ G (aH (.tok u r c)) by walk_at "e") _ _ ?_;refine Nk (w:=u) (it:=.tok u r c) (by rw[z];cases u.1.off<;>rfl) (Na h le λn F e y h=>?_);have I:(u.1.al&&bX (kZ u.1.num))=W:=by rw[z,y];rfl
   have D:n=oZ u.1.num:=by rw[y];rfl
   refine(show Ev (ao (aN az) aB aW) _ F (aH (.tok u r c)) by walk_at "e") _ _ ?_;rw[D];refine acA (it:=.tok u r c) I (h.bd (le.t e) λv E e2 h=>?_);refine dz (v:=.int (x+1:Nat)) (by walk_at "e") (cy (by walk_at "e") ?_);exact h E ((le.t e).t e2) _ p.nx
  .rw[j]at q;unfold AI at h;rw[j]at h;exact bL (DR p (af rfl) (af rfl) q) (cy (by walk_at "e") (h G le x p))
 have q:=aia t;refine bc (b:=C5 t) (λl=>?_) λl=>?_
 .rw[l]at q;refine RE (afT l) λu r c m f M B=>?_;subst f;unfold Jh at h;rw[l]at h;simp only[cond_true,Res.tQ,Res.Rr]at h;have a:=u.2.aby B (H:=H);refine bM (DR p (af rfl) (af rfl) q) (fW (fo ?_));refine qW (v:=.str u.1.cut) (by walk_at "e") ax ax ax rfl rfl rfl a _ _ ?_;refine(show Ev (ao (aN az) aB aW) _ H (aH (.tok u r c)) by walk_at "e") _ _ ?_;refine Nk (w:=u) (it:=.tok u r c) (by rw[B];rfl) (Na h Up.r λn F e y h=>?_);exact dz (v:=.int (k+1:Nat)) (by walk_at "e") (tail p.nx e h)
 .rw[l]at q;unfold Jh at h;rw[l]at h;exact bL (DR p (af rfl) (af rfl) q) (tail p Up.r h)
end
section
variable{H G:List MO}{k:Nat}{xs ys:List O}{x y:O}{T:Tb}{n:Str}{C:Nat}{fs:List (Str×O)}{cs es:List Nat}{v:O}
theorem tO(h:H[k]?=Y (.lst xs)):ee mL H (.ref k)=Y (k,xs):=by
 show(H[k]?).bind _=_;rw[h];rfl
theorem Ep(h:H[k]?=Y (.inst C fs)):ee mI H (.ref k)=Y (k,C,fs):=by
 show(H[k]?).bind _=_;rw[h];rfl
theorem xF(h:H[k]?=Y (.bu fs)):ee mD H (.ref k)=Y (k,fs):=by
 show(H[k]?).bind _=_;rw[h];rfl
theorem kU(h:H[k]?=Y (.lst xs)):listOf H (.ref k)=Y xs:=by show H[k]?.bind mA=_;rw[h];rfl
theorem hZ(h:H[k]?=Y (.lst xs)):qB (.ref k) H=Y "list":=by unfold qB;rw[tO h];rfl
theorem afl(n:Str)(x:O)(H:List MO):nA n [] x H=Sa:=by
 unfold nA;cases C9 x H<;>rfl
theorem acO(h:fits (xs++ys)=W):fits xs=W:=c8 (by have:=c7 h;rw[VK]at this;lia)
theorem xH(h:H[k]?=Y (.lst xs))(a:listOf H y=Y ys)(f:fits (xs++ys)=W):kC T .ext (.ref k) [y] H=Y (.none,H.set k (.lst (xs++ys))):=by
 show(ee mL H (.ref k)).bind _=_;rw[tO h];show gd (fits xs) ((listOf H y).bind _)=_;rw[acO f,a];show gd (fits (xs++ys)) _=_;rw[f];rfl
theorem lQ(h:H[k]?=Y (.lst xs))(f:fits xs=W):kC T .app (.ref k) [y] H=Y (.none,H.set k (.lst (xs++[y]))):=by
 show(ee mL H (.ref k)).bind _=_;rw[tO h];show gd (fits xs) _=_;rw[f];rfl
theorem MC(h:H[k]?=Y (.lst (xs++[y])))(f:fits (xs++[y])=W):kC T .pop (.ref k) [] H=Y (y,H.set k (.lst xs)):=by
 show(ee mL H (.ref k)).bind _=_;rw[tO h];show gd (fits (xs++[y])) (gd W ((xs++[y]).getLast?.bind λv=>Y (v,H.set k (.lst (xs++[y]).dropLast))))=_;rw[f,List.getLast?_concat,List.dropLast_concat];rfl
theorem acS(h:lu n t n5=Y m)(e:qB x H=Y t):((qB x H).bind λt=>lu n t n5)=Y m:=by rw[e];exact h
theorem add_l(e:listOf H y=Y ys)(f:fits (xs++ys)=W):aX (.lst xs) y H=Y (.lst (xs++ys)):=by
 unfold aX;have e1:(jI (.lst xs) y λa b=>Y (O.int (a+b)))=Sa:=rfl;have e2:((aS (.lst xs)).bind λa=>(aS y).bind λb=>gd (fits (a.cps.toList++b.cps.toList)) (Y (O.str (a++b))))=Sa:=rfl;rw[e1,e2,e];show gd (fits (xs++ys)) _=_;rw[f];rfl
theorem ny(h:H[k]?=Y (.lst xs))(f:fits xs=W):jM (.ref k) H=Y (.int xs.length):=by
 unfold jM;rw[kU h];show alt (gd (fits xs) _) _=_;rw[f];rfl
theorem eU(h:H[k]?=Y (.inst C fs))(a:bx C cs=W)(b:look n fs=Y v):ix n cs es (.ref k) H=Y v:=by
 unfold ix;rw[Ep h];show gd (bx C cs) (look n fs)=_;rw[a];exact b
theorem oU(h:H[k]?=Y (.inst C fs))(a:(bx C cs&&bw fs 900)=W):mH n cs es (.ref k) v H=Y (H.set k (.inst C (fN n v fs))):=by
 unfold mH;rw[Ep h];show alt (gd (bx C cs&&bw fs 900) _) _=_;rw[a];rfl
end
section
variable{K:bp}{X:KX}{H:List MO}{a:EM O}{as:List (EM O)}{e:En}{x:O}{n:Str}{T:Tb}{m:Bm}{tab:List (Nat×Fn)}
theorem hO(b:Ev a e H x)(f:qB x H=Y t)(hb:lu n t n5=Y m)(k:Args as e H (λxs G=>oP (kC T m x xs G) λp=>K p.1 p.2) X):aM T n [] a as e H K X:=b _ _ (by
 show eP _ _ _;rw[afl];exact oI (acS hb f) k)
theorem jX{K:List O->List MO->Prop}(h:jr as e H xs)(k:K xs H):Args as e H K X:=h _ _ k
theorem JF(h1:e[i]?=Y (Y c))(b:M e H (λv G=>A e G (λz G=>KF' (.ret (.tup [.tup [c,v],z])) e G) (xE XE e)) (xE XE e)):aV (au [au [Loc i,M],A]) e H KF' XE:=by
 conv=>whnf
 exact oI (a:=c) (by rw[h1];rfl) b
theorem yt:lu qu "list" n5=Y .ext:=by kernel_rfl!
theorem kL:lu du "list" n5=Y .app:=by kernel_rfl!
theorem Ob:lu JD "list" n5=Y .pop:=by kernel_rfl!
end
noncomputable def Fm.n:Fm->Nat
 | .f0=>0 | .f1=>1 | .f2=>2 | .f3=>3 | .f4=>4 | .f5=>5 | .f6=>6 | .f7=>7 | .f8=>8 | .f9=>9 | .f10=>10 | .f11=>11 | .f12=>12 | .f13=>13 | .f14=>14 | .f15=>15 | .f16=>16 | .f17=>17 | .f18=>18 | .f19=>19 | .f20=>20
theorem q5(f:Fm)(s:Str)(i:Nat)(h:((akk 21).map λj=>VH j i)=[Fm.f0,.f1,.f2,.f3,.f4,.f5,.f6,.f7,.f8,.f9,.f10,.f11,.f12,.f13,.f14,.f15,.f16,.f17,.f18,.f19,.f20].map λf=>f.v == s):(f.v == s)=VH f.n i:=by
 have e:∀j:Nat,((akk 21).map λj=>VH j i)[j]?=([Fm.f0,.f1,.f2,.f3,.f4,.f5,.f6,.f7,.f8,.f9,.f10,.f11,.f12,.f13,.f14,.f15,.f16,.f17,.f18,.f19,.f20].map λf=>f.v == s)[j]?:=λj=>by rw[h]
 cases f with
 |f0=>exact(UB (e 0)).symm
 |f1=>exact(UB (e 1)).symm
 |f2=>exact(UB (e 2)).symm
 |f3=>exact(UB (e 3)).symm
 |f4=>exact(UB (e 4)).symm
 |f5=>exact(UB (e 5)).symm
 |f6=>exact(UB (e 6)).symm
 |f7=>exact(UB (e 7)).symm
 |f8=>exact(UB (e 8)).symm
 |f9=>exact(UB (e 9)).symm
 |f10=>exact(UB (e 10)).symm
 |f11=>exact(UB (e 11)).symm
 |f12=>exact(UB (e 12)).symm
 |f13=>exact(UB (e 13)).symm
 |f14=>exact(UB (e 14)).symm
 |f15=>exact(UB (e 15)).symm
 |f16=>exact(UB (e 16)).symm
 |f17=>exact(UB (e 17)).symm
 |f18=>exact(UB (e 18)).symm
 |f19=>exact(UB (e 19)).symm
 |f20=>exact(UB (e 20)).symm
theorem ac1(f:Fm):(f.v == vV)=VH f.n 13:=q5 f _ 13 (by kernel_rfl!)
theorem acV(f:Fm):(f.v == fD)=VH f.n 11:=q5 f _ 11 (by kernel_rfl!)
section
variable{K:bp}{X:KX}{H:List MO}{is:List Itm}{k:Nat}{it:Itm}{t:List Itm}
def xN(w:Wd)(tk:Itm):List Itm->Res (List Int×List Itm)
 | []=>odd tk
 | .br is r c::_=>odd (.br is r c)
 | .tok u r c::a=>cond (VH w.aZ.n 13) (cond (nW u.1.sort) (odd (.tok u r c)) (match u.1.heap with|none=>odd (.tok u r c)|some k=>.ok ([oN w.code,k],a)))
  (cond (eI u.1.sort) ((Cz (bX (VH w.aZ.n 11)) u.1 r c).bind λv=>.ok ([oN w.code,v],a)) (odd (.tok u r c)))
theorem adJ{K:bp}(h:K .none H):vM [.str fj] H K X:=by
 unfold vM;rw[dU];have e:∀(H:List MO) (K:bp) (X:KX),bl 1 [] 1 AO [.str fj] H K X=K .none H:=by intro H K X;kernel_rfl!
 rw[e];exact h
theorem abu{m:O}{w:OW}{tk:Itm}(p:Ps is k t)(h:Out H (kI is K) X (xN w.1 tk t)):Bn [m,.int (oN w.1.code),.str w.1.aZ.v,aH tk,.lst (aP is),.int k] H K X:=by
 unfold Bn;refine B5 ?_;cases t with
 |nil=>exact bM (by walk_at "e") (c6 (cG (by walk_at "e") (gU h)))
 |cons it y=>cases it with
  |br is r c=>exact bM (by walk_at "e") (c6 (cG (aj ax (aj (show Ev _ _ _ (aH (.br is r c)) by walk_at "e") aC)) (gU h)))
  |tok u r c =>
   refine bL (by walk_at "e") ?_;have rf:∀{e:En}{C:SM}{j:KF},Ev (ao (aN az) bq bz) e H (aH (.tok u r c))->Out H (kI is K) X (odd (.tok u r c))->ak arH C e H j (λC fs _ H=>X C fs H):=λhe h=>c6 (cG (aj ax (aj he aC)) (gU h));have x:=ac1 w.1.aZ;have h3:=acV w.1.aZ;refine bc (b:=VH w.1.aZ.n 13) (λl=>?_) λl=>?_
   .unfold xN at h;rw[l]at h x;have h:Out H (kI is K) X (cond (nW u.1.sort) (odd (.tok u r c)) (match u.1.heap with|none=>odd (.tok u r c)|some k=>.ok ([(oN w.1.code:Int),k],y))):=h;refine bM (by walk_at "e") (fW ?_);have hw:=UE (H:=H) (e:=some m::some (.int (oN w.1.code))::some (.str w.1.aZ.v)::some (aH tk)::some (.lst (aP is))::some (.int k)::dS 1) (a:=Loc 4) (b:=Loc 5) p (af rfl) (af rfl);have hw:Ev _ _ _ (O.str (cond (nW u.1.sort) fj u.1.txt)):=hw;refine bc (b:=nW u.1.sort) (λf=>?_) λf=>?_
    .rw[f]at h hw;refine dz (v:=.none) (hS (aj hw aC) λK X k=>adJ k) (fW (bM (by walk_at "e") ?_));exact rf (by walk_at "e") h
    .rw[f]at h hw;refine dz (v:=mB u.1.heap) (hS (aj hw aC) λK X k=>ll (u.2.heap f) k) (fW ?_);cases hh:u.1.heap with
     |none=>rw[hh]at h;exact bM (by walk_at "e") (rf (by walk_at "e") h)
     |some i=>rw[hh]at h;exact bL (by walk_at "e") (mN (by walk_at "e") (h H Up.r (k+1) p.nx))
   .unfold xN at h;rw[l]at h x;have h:Out H (kI is K) X (cond (eI u.1.sort) ((Cz (bX (VH w.1.aZ.n 11)) u.1 r c).bind λv=>.ok ([oN w.1.code,v],y)) (odd (.tok u r c))):=h;refine bL (by walk_at "e") ?_;refine bc (b:=eI u.1.sort) (λf=>?_) λf=>?_
    .rw[f]at h;refine bL (by walk_at "e") (JF rfl ?_);have hb:Ev asz (some m::some (.int (oN w.1.code))::some (.str w.1.aZ.v)::some (aH tk)::some (.lst (aP is))::some (.int k)::dS 1) H (.int (cond (bX (VH w.1.aZ.n 11)) 64 32)):=by
      refine bc (b:=VH w.1.aZ.n 11) (λhb=>?_) λhb=>?_
      .rw[hb]at h3 ⊢;exact lp (by walk_at "e") ax
      .rw[hb]at h3 ⊢;exact jz (by walk_at "e") ax
     refine cG (aj (show Ev _ _ _ (aH (.tok u r c)) by walk_at "e") (aj hb aC)) (aeh f (h.bd Up.r λv F e h=>?_));exact(show Ev _ _ F (O.int (k+1:Nat)) by walk_at "e") _ _ (h F e (k+1) p.nx)
    .rw[f]at h;exact bM (by walk_at "e") (rf (by walk_at "e") h)
theorem pQ(h:bw l 1000=W):fits (iA l)=W:=c8 (by unfold iA;rw[VO];have:=c7 h;lia)
theorem BW(h:bw l 1000=W)(x:O):fits ([x]++iA l)=W:=c8 (by rw[VK];unfold iA;rw[VO];have:=c7 h;simp only[WB,akf];lia)
def zO(acc:List Int)(b:Bool):List Itm->Res (List Int×List Itm)
 | []=>.ok (cond b (28::acc) [27],[])
 |it::r=>cond (dQ it == fh) ((sP it).bind λks=>gn (bw (acc++ks) 1000) (zO (acc++ks) W r)) (.ok (cond b (28::acc) [27],it::r))
theorem DJ{k:Nat}(h1:Ev m e H (.tup (iA l)))(h2:Ev a e H (.int k))(h:KF' (.ret (.tup [.tup (iA l),.int k])) e H):aV (au [m,a]) e H KF' XE:=cy (c9 (aj h1 (aj h2 aC)) rfl) h
theorem ya(h:Ev a e H x)(b:listOf H x=Y xs)(f:fits xs=W):Ev (ku a) e H (.tup xs):=λK X k=>h _ _ (oI b (bI f k))
inductive X8 (is:List Itm) (sf:O) (H:List MO) (K:bp) (X:KX) (t:List Itm) (e:En) (G:List MO):Prop
 |mk (k:Nat) (acc:List Int) (b:Bool) (he:e=[Y sf,Y (.lst (aP is)),Y (.int k),Y (.ref H.length),Y (.bool b)]) (p:Ps is k t) (le:Le H G) (hG:G[H.length]?=Y (.lst (iA acc))) (ha:bw acc 1000=W) (h:Out H (kI is K) X (zO acc b t))
theorem ahu(p:Ps is k t)(h:Out H (kI is K) X (zO [] UA t)):Bw [sf,.lst (aP is),.int k] H K X:=by
 unfold Bw;refine kM (i6 ?_);show ak (gm _ _) _ [Y sf,Y (.lst (aP is)),Y (.int k),Y (.ref H.length),Y (.bool UA)] (H++[.lst []]) _ _;refine ve (λt=>t.length) (X8 is sf H K X) ?_ t ?_ ?_
 .intro t e G go j z;cases z with
  |mk k acc b he p le i m h =>
  subst he;have f:Out H (kI is K) X (.ok (cond b (28::acc) [27],t))->(ak (aY (cq bq) asd bh) (aV (au [au [ah 27],aB]))) [Y sf,Y (.lst (aP is)),Y (.int k),Y (.ref H.length),Y (.bool b)] G (d6 K) (λC fs _ H=>X C fs H):=by
   intro h;refine bc (b:=b) (λhb=>?_) λhb=>?_
   .subst hb;have w:=add_l (xs:=[.int 28]) (y:=.ref H.length) (kU i) (BW m _);refine bM (by walk_at "e") (DJ (l:=28::acc) (ya (bB (show Ev (ar [ah 28]) _ G (.lst [.int 28]) fromλK X k=>k) (af rfl) w) rfl (BW m _)) (af rfl) (h G le k p))
   .subst hb;exact bL (by walk_at "e") (DJ (l:=[27]) (c9 (aj ax aC) rfl) (af rfl) (h G le k p))
  cases t with
  |nil=>exact(show Ev _ _ G UA by walk_at "e") _ _ (f h)
  |cons it r =>
   have hh:=oa (H:=G) (e:=[Y sf,Y (.lst (aP is)),Y (.int k),Y (.ref H.length),Y (.bool b)]) (a:=ao (aN az) ay aB) p.sm (by walk_at "e");have h:Out H (kI is K) X (cond (dQ it == fh) ((sP it).bind λks=>gn (bw (acc++ks) 1000) (zO (acc++ks) W r)) (.ok (cond b (28::acc) [27],it::r))):=h;refine bc (b:=dQ it == fh) (λhq=>?_) λhq=>?_
   .rw[hq]at h;refine(show Ev _ _ G W by walk_at "e") _ _ (cT rfl (c6 ?_));refine hO (af rfl) (hZ i) yt ?_;show aA uc _ _ _ _ _;refine cG (aj (show Ev _ _ _ (aH it) by walk_at "e") aC) (Qv p.sm (h.bd le λks F e h=>?_));refine a9 h.gr λhb h=>?_;refine oI (xH (e.g i) rfl (by rw[←nh];exact pQ hb)) ?_;refine dz ax ?_;refine(show Ev (ao aX aB (ah 1)) _ _ (O.int (k+1:Nat)) by walk_at "e") _ _ ?_;refine j r _ _ (af5 _) ⟨k+1,acc++ks,W,rfl,p.nx,(le.t e).st (iJ H) _,?_,hb,h⟩;rw[eS (e.g i),nh]
   .rw[hq]at h;exact(show Ev _ _ G UA by walk_at "e") _ _ (f h)
 .have:=p.len;have:=p.s;show t.length < 3000;lia
 .exact⟨k,[],UA,rfl,p,Le.n H _,ef H _,rfl,h⟩
variable{j:Nat}{r:Nat}{c:Nat}
theorem gW{n:Str}{b es:List Nat}{o m:EM O}{e:En}{x v:O}{a:List MO}{C:SM}{K:KF}{X:KE}(hm:Ev m e H v)(f:Ev o e H x)(h:mH n b es x v H=Y a)(k:C e a K X):ak (cW n b es o m) C e H K X:=hm _ _ (f _ _ (oI h k))
theorem yW{n:Str}{b es:List Nat}{o m:EM O}{e:En}{x v:O}{a:List MO}{K:KF}{X:KE}(hm:Ev m e H v)(f:Ev o e H x)(h:mH n b es x v H=Y a)(k:K .next e a):cW n b es o m e H K X:=hm _ _ (f _ _ (oI h k))
theorem adn(h:b (some x::some d::dS m) H (d6 K) λC fs _ H=>X C fs H):sl (bl 2 [d] m b) [x] H K X:=by rw[dU];exact h
theorem Om(h:b (some x::some y::dS m) H (d6 K) λC fs _ H=>X C fs H):sl (bl 2 [d] m b) [x,y] H K X:=by rw[dU];exact h
theorem ado(h:b (some x::some y::some z::dS m) H (d6 K) λC fs _ H=>X C fs H):sl (bl 3 [d] m b) [x,y,z] H K X:=by rw[dU];exact h
def bS(is:List Itm)(k r c:Nat):MO:=.inst 355 [(bY,.lst (aP is)),(cg,.int k),(cZ,.int r),(df,.int c)]
abbrev dD(H:List MO)(j:Nat)(is:List Itm)(k r c:Nat):Prop:=H[j]?=Y (bS is k r c)
theorem yX(h:dD H j is k r c):ix bY [230,355,522] [] (.ref j) H=Y (.lst (aP is)):=eU h rfl rfl
theorem vZ(h:dD H j is k r c):ix cg [355,522] [183] (.ref j) H=Y (.int k):=eU h rfl rfl
theorem adW(h:dD H j is k r c):ix cZ [202,230,355] [164] (.ref j) H=Y (.int r):=eU h rfl rfl
theorem adV(h:dD H j is k r c):ix df [202,230,355] [164] (.ref j) H=Y (.int c):=eU h rfl rfl
theorem af4(h:H[j]?=Y (.inst C fs)):C9 (.ref j) H=Y (C,fs):=by
 unfold C9;rw[Ep h];rfl
theorem cV(h:H[j]?=Y (.inst C fs))(a:((eJ C tab).bind λF=>gd (uL (look n fs)) (Y F))=Y F):nA n tab (.ref j) H=Y F:=by
 unfold nA;rw[af4 h];exact a
noncomputable def E8:List Itm->Bool | []=>W|_::_=>UA
noncomputable def pV:List Itm->O | []=>.none|it::_=>aH it
theorem Nq(p:Ps is k t):((k:Int) == (is.length:Int))=E8 t:=by
 cases t with
 |nil=>rw[p.eq];exact ah6 _
 |cons=>have:=p.lt;exact VQ.mpr (by lia)
theorem aet(a:dD H j is k r c)(p:Ps is k t)(h:K (.bool (E8 t)) H):t7 [.ref j] H K X:=by
 unfold t7;exact fun1 (cy (Bi (cu (af rfl) (vZ a) rfl) (de (cu (af rfl) (yX a) rfl) (j9 p H)) (nD (Nq p))) h)
theorem Bb(a:dD H j is k r c)(p:Ps is k t)(b:Ev o e H (.ref j)):Ev (cq (aM aJ mf [(355,t7)] o [])) e H (E8 t) :=fP (tW b (cV a rfl) aC λK X k=>aet a p k) rfl
theorem adK(a:dD H j is k r c)(p:Ps is k t)(h:K (pV t) H):tZ [.ref j] H K X:=by
 unfold tZ;refine fun1 ?_;have b:=Bb (e:=Y (O.ref j)::dS 0) (o:=Loc 0) a p (af rfl);cases t with
 |nil=>exact cy (lp b ax) h
 |cons it f=>exact cy (jz b (bB (cu (af rfl) (yX a) rfl) (cu (af rfl) (vZ a) rfl) (lF p H))) h
theorem FJ(a:dD H j is k r c)(p:Ps is k t)(b:Ev o e H (.ref j)):Ev (aM aJ mh [(355,tZ)] o []) e H (pV t) :=tW b (cV a rfl) aC λK X k=>adK a p k
def kF(q:Str):List Itm->Bool
 | .br is r c::_=>dQ (.br is r c) == q
 |_=>UA
theorem aes(s:jm is=W)(p:Ps is k t)(h:K (.bool (kF q t)) H):BJ [pV t,.str q] H K X:=by
 unfold BJ;refine Om ?_;cases t with
 |nil=>exact cy (v:=.bool UA) (by walk_at "e") h
 |cons it b=>cases it with
  |tok w r c =>
   rw[show pV (.tok w r c::b)=aH (.tok w r c) from rfl];exact cy (v:=.bool UA) (by walk_at "e") h
  |br a r c =>
   rw[show pV (.br a r c::b)=aH (.br a r c) from rfl];refine cy (v:=.bool (dQ (.br a r c) == q)) (NX (by walk_at "e") (xZ (by walk_at "e") (Bi (x:=.str (dQ (.br a r c))) (tW (af rfl) rfl aC λK X k=>MJ p.sm k) (af rfl) (sV rfl)))) h
theorem IA(a:dD H j is k r c)(p:Ps is k t)(b:Ev o e H (.ref j)):Ev (cq (aM aJ iD [(355,t6)] o [J q])) e H (kF q t):=by
 refine fP (x:=.bool (kF q t)) (tW b (cV a rfl) (aj ax aC) λK X f=>?_) rfl;unfold t6;exact Om (cy (hS (aj (FJ a p (af rfl)) (aj (af rfl) aC)) λK X k=>aes p.m p k) f)
def uJ:List Itm->Bool
 | .tok w _ _::_=>eD w.1.sort
 |_=>UA
theorem aew(h:K (.bool (uJ t)) H):lr [pV t,.str je,.none] H K X:=by
 unfold lr;refine ado ?_;cases t with
 |nil=>exact cy (v:=.bool UA) (by walk_at "e") h
 |cons it f=>cases it with
  |br a r c =>
   rw[show pV (.br a r c::f)=aH (.br a r c) from rfl];exact cy (v:=.bool UA) (by walk_at "e") h
  |tok w r c =>
   rw[show pV (.tok w r c::f)=aH (.tok w r c) from rfl];refine bc (b:=eD w.1.sort) (λe=>?_) λe=>?_
   .exact cy (v:=.bool W) (by walk_at "e") (by rw[←e];exact h)
   .exact cy (v:=.bool UA) (by walk_at "e") (by rw[←e];exact h)
theorem aez(a:dD H j is k r c)(p:Ps is k t)(b:Ev o e H (.ref j)):Ev (cq (aM aJ jD [(355,yi)] o [J je])) e H (uJ t):=by
 refine fP (x:=.bool (uJ t)) (tW b (cV a rfl) (aj ax aC) λK X f=>?_) rfl;unfold yi;exact FA (cy (hS (aj (FJ a p (af rfl)) (aj (af rfl) (aj (af rfl) aC))) λK X k=>aew k) f)
def acD{a:Type}(r c:Nat):List Itm->Res a
 | []=>.bad aq r c
 |it::_=>.bad aq it.r it.c
theorem N6{f:Type}{K0:f->List MO->Prop}(a:dD H j is k r c)(p:Ps is k t)(h:Out H K0 X (acD r c t)):yh [.ref j] H K X:=by
 unfold yh;refine adn (dz (FJ a p (af rfl)) ?_);cases t with
 |nil=>exact bM (by walk_at "e") (DC (aj (af rfl) (aj (cu (af rfl) (adW a) rfl) (aj (cu (af rfl) (adV a) rfl) aC))) h.kB)
 |cons it e =>
  rw[show pV (it::e)=aH it from rfl];have b:kj (aH it) .none H=Y UA:=by cases it<;>rfl
  exact bL (bb (af rfl) ax b) (s9 rfl (af rfl) h.kB)
theorem aio{i:Type}{K0:i->List MO->Prop}(a:dD H j is k r c)(p:Ps is k t)(h:match t with | []=>Out H K0 X (.bad aq r c)|it::_=>K (aH it) (H.set j (bS is (k+1) r c))):lq [.ref j] H K X:=by
 unfold lq;refine fun1 ?_;have f:=Bb (e:=Y (O.ref j)::dS 0) (o:=Loc 0) a p (af rfl);cases t with
 |nil=>exact bM f (c6 (dB (af rfl) (cV a rfl) aC (N6 (K0:=K0) a p h)))
 |cons it l =>
  refine bL f (gW (v:=.int (k+1:Nat)) (bB (cu (af rfl) (vZ a) rfl) ax rfl) (af rfl) (oU a rfl) ?_);have b:dD (H.set j (bS is (k+1) r c)) j is (k+1) r c:=eS a _;refine cy (v:=aH it) (bB (cu (af rfl) (yX b) rfl) (bB (y:=.int 1) (v:=.int k) (cu (af rfl) (vZ b) rfl) ax ?_) (lF p _)) h;show Y (O.int ((k+1:Nat) - 1:Int))=_;rw[show((k+1:Nat) - 1:Int)=k by lia]
theorem A0{f:Type}{K0:f->List MO->Prop}{e:En}{o:EM O}(a:dD H j is k r c)(p:Ps is k t)(b:Ev o e H (.ref j))(h:match t with | []=>Out H K0 X (.bad aq r c)|it::_=>K (aH it) (H.set j (bS is (k+1) r c))):aM aJ iF [(355,lq)] o [] e H K X :=dB b (cV a rfl) aC (aio (K0:=K0) a p h)
theorem A3(a:dD H j is k r c)(p:Ps is k (it::t))(b:Ev o e H (.ref j))(h:K (aH it) (H.set j (bS is (k+1) r c))):aM aJ iF [(355,lq)] o [] e H K X:=A0 (K0:=λ(_:Int) _=>True) a p b h
theorem MR{e:En}{o:EM O}(a:dD H j is k r c)(p:Ps is k t)(b:Ev o e H (.ref j))(h:K (.lst (aP t)) (H.set j (bS is is.length r c))):aM aJ mj [(355,t8)] o [] e H K X:=by
 refine dB b (cV a rfl) aC ?_;unfold t8;refine fun1 (dz (v:=.lst (aP t)) (qW (cu (af rfl) (yX a) rfl) (cu (af rfl) (vZ a) rfl) ax ax rfl rfl rfl (JN p H)) ?_);exact gW (v:=.int is.length) (de (cu (af rfl) (yX a) rfl) (j9 p H)) (af rfl) (oU a rfl) (cy (af rfl) h)
theorem aaU(a:dD H j is k r c)(p:Ps is k [])(b:Ev o e H (.ref j))(h:K .none H):aM aJ m5 [(355,t9)] o [] e H K X:=by
 refine dB b (cV a rfl) aC ?_;unfold t9;exact fun1 (jH (mX (Bb a p (af rfl)) rfl) h)
theorem MS{i:Type}{K0:i->List MO->Prop}(a:dD H j is k r c)(p:Ps is k t)(f:Ev o e H (.ref j))(h:match t with | []=>K .none H|it::_=>Out H K0 X (.bad aq it.r it.c)):aM aJ m5 [(355,t9)] o [] e H K X:=by
 refine dB f (cV a rfl) aC ?_;unfold t9;refine fun1 ?_;have b:=Bb (e:=Y (O.ref j)::dS 0) (o:=Loc 0) a p (af rfl);cases t with
 |nil=>exact jH (mX b rfl) h
 |cons it l=>exact lC (mX b rfl) (show ba _ _ _ _ _ from dB (af rfl) (cV a rfl) aC (N6 (K0:=K0) a p h))
theorem Qn{is:List Itm}{r c:Nat}(h:K (.ref H.length) (H++[bS is 0 r c])):vx [.lst (aP is),.int r,.int c] H K X:=by
 unfold vx;rw[dU];show BA _ _ _ _;unfold BA;refine pS ?_;have a:∀{C:Nat}{fs:List (Str×O)}{n:Str}{b es:List Nat}{v:O},(bx C b&&bw fs 900)=W->mH n b es (.ref H.length) v (H++[.inst C fs])=Y (H++[.inst C (fN n v fs)]):=λe=>by
  rw[oU (ef H _) e,vb]
 exact gW (af rfl) (af rfl) (a rfl) (gW ax (af rfl) (a rfl) (gW (af rfl) (af rfl) (a rfl) (yW (af rfl) (af rfl) (a rfl) h)))
theorem J3{a:Itm}{is:List Itm}(s:gX (.br (a::is) r c)=W)(h:K (.ref H.length) (H++[bS is 0 r c])):qY [aH (.br (a::is) r c)] H K X:=by
 unfold qY;exact fun1 (u9 (cG (aj (qW (v:=.lst (aP is)) (by walk_at "e") ax ax ax rfl rfl rfl (JN (Ps.of s).nx H)) (aj (by walk_at "e") (aj (by walk_at "e") aC))) (Qn h)))
theorem aaT(s:gX (.br (h0::is) r c)=W)(b:Ev a e H (aH (.br (h0::is) r c)))(h:K (.ref H.length) (H++[bS is 0 r c])):aA qY [a] e H K X :=cG (aj b aC) (J3 s h)
theorem Ps.AX(s:gX (.br (h0::is) r c)=W):Ps is 0 is:=by
 have s':jm is=W:=by have:=(Ps.of s).m;have:(gX h0&&jm is)=W:=this;rw[VG]at this;exact this.2
 exact⟨rfl,akQ _,by have:=(Ps.of s).s;simp only[WB]at this;lia,s'⟩
variable{G:List MO}{d:Nat}
theorem Ng(i:∀b f,b (.lst (aP t)) G->a e H b f)(l:t.length<=2000)(h:Out G (λks=>K (.lst (iA ks))) X (p9 [] t)):gw (iQ a) [] (aA lZ [ai]) [] e H K X:=by
 refine cast xU.symm (oI (a:=[]) rfl (i _ _ (oI (a:=aP t) rfl ?_)));exact M8 (iJ G) t [] _ (by simp only[akf];lia) (Le.n G _) (ef G _) h
theorem aaS(i:dD H j is k r c)(p:Ps is k t)(x:Ev o e H (.ref j))(h:match t with | .tok w f a::_=>cond (eD w.1.sort) (K (aH (.tok w f a)) (H.set j (bS is (k+1) r c))) (K .none H)|_=>K .none H):aM aJ rF [(355,BB)] o [] e H K X:=by
 refine dB x (cV i rfl) aC ?_;unfold BB;refine fun1 (u9 ?_);have hi:=aez (e:=Y (O.ref j)::dS 0) (o:=Loc 0) i p (af rfl);have no:∀{l:bp}{X':KX},l .none H->uJ t=UA->cS asy asm (aL .none) (Y (O.ref j)::dS 0) H l X':=λm hb=>(hb▸hi) _ _ (cF rfl m);cases t with
 |nil=>exact no h rfl
 |cons it y=>cases it with
  |br=>exact no h rfl
  |tok w f a =>
   have h:cond (eD w.1.sort) (K (aH (.tok w f a)) (H.set j (bS is (k+1) r c))) (K .none H):=h;cases b:eD w.1.sort with
   |true =>
    rw[b]at h;have hb:uJ (.tok w f a::y)=W:=b;exact(hb▸hi) _ _ (cT rfl (A0 (K0:=λ(_:Int) _=>True) i p (af rfl) h))
   |false=>rw[b]at h;exact no h b
theorem ad7(h:H[d]?=Y (.bu fs)):cI bd (.str s) (.ref d) H=Y (uO (look s fs)):=by
 unfold cI zv;rw[xF h];have e1:(AU bd (.ref d) (.str s))=Sa:=rfl;have e2:listOf H (.ref d)=Sa:=by show H[d]?.bind mA=_;rw[h];rfl
 rw[e1,e2];rfl
theorem RM(h:H[d]?=Y (.bu fs))(f:fits fs=W):putItem (.ref d) (.str s) v H=Y (H.set d (.bu (fN s v fs))):=by
 unfold putItem;rw[xF h];show alt (gd (fits fs) _) _=_;rw[f];rfl
theorem JH{o i m:EM O}{e:En}{x y v:O}{a:List MO}{C:SM}{K:KF}{X:KE}(hm:Ev m e H v)(b:Ev o e H x)(hi:Ev i e H y)(f:putItem x y v H=Y a)(k:C e a K X):ak (qJ o i m) C e H K X:=hm _ _ (b _ _ (hi _ _ (oI f k)))
theorem MN(h:a e H (λx G=>F [x] G K X) X):aA F [a] e H K X:=h
theorem Up.s1(h:H[d]?=Y m)(m':MO):Up [d] H (H.set d m'):=λk x e n=>by
 rw[acF λq=>by rw[q]at n;simp[bx]at n];exact e
def CO(a:List (Str×O))(m:Int):Itm->Res (List Int×List (Str×O))
 | .br (_::t) _ _=>cond (uJ t) (match t with
   | .tok w _ _::x::[]=>gn (bX (oM a)) ((xe x).bind λk=>.ok ([k],[(w.1.txt,.int m)]))
   |_=>.stuck) ((p9 [] t).bind λks=>.ok (ks,a))
 |_=>.stuck
theorem aeN(s:gX it=W)(N:H[d]?=Y (.bu ids))(h:jT [d] H (λp G=>G[d]?=Y (.bu p.2)->K (.lst (iA p.1)) G) X (CO ids m it)):BL [aH it,.ref d,.int m] H K X:=by
 induction it using Itm.casesOn with
 |tok=>exact h.elim
 |br l r c =>
 induction l using cL with
 |nil=>exact h.elim
 |cons h0 t =>
  unfold BL;have p:=Ps.AX s;refine kM (fo (aaT s (af rfl) ?_));have S:dD (H++[bS t 0 r c]) H.length t 0 r c:=ef H _;have A:=(Le.n H (bS t 0 r c)).g N;have z:Up [d] H (H++[bS t 0 r c]):=Up.r.nn _;have E:=iJ H;have M:d≠H.length:=λq=>by rw[q,E]at N;exact bN N
  have plain:uJ t=UA->jT [d] H (λp G=>G[d]?=Y (.bu p.2)->K (.lst (iA p.1)) G) X ((p9 [] t).bind λks=>.ok (ks,ids))->∀{e:En}{C:SM},e[3]?=Y (Y (.ref H.length))->ak arS C e (H++[bS t 0 r c]) (d6 K) (λC fs _ H=>X C fs H):=λhb h {e} {C} he=>qy (Ng (G:=(H++[bS t 0 r c]).set H.length (bS t t.length r c)) (λK' X' hk=>MR S p (af he) hk) p.s (h.bd (z.st E _) λks F e h=>h F ((z.st E _).t e.u) (e.g (by rw[acF (acb M)];exact A))));refine fo (aaS S p (af rfl) ?_);induction t using cL with
  |nil=>exact bM (by walk_at "e") (plain rfl h rfl)
  |cons it t' =>
  induction it using Itm.casesOn with
  |br=>exact bM (by walk_at "e") (plain rfl h rfl)
  |tok w b a =>
   have h:jT [d] H (λp G=>G[d]?=Y (.bu p.2)->K (.lst (iA p.1)) G) X (cond (eD w.1.sort) (match Itm.tok w b a::t' with | .tok w _ _::x::[]=>gn (bX (oM ids)) ((xe x).bind λk=>.ok ([k],[(w.1.txt,.int m)]))|_=>.stuck) ((p9 [] (.tok w b a::t')).bind λks=>.ok (ks,ids))):=h;show cond (eD w.1.sort) _ _;cases Z:eD w.1.sort with
   |false=>rw[Z]at h;exact bM (by walk_at "e") (plain Z h rfl)
   |true =>
    rw[Z]at h;induction t' using cL with
    |nil=>exact h.elim
    |cons x l =>
    induction l using cL with
    |cons _ _=>exact h.elim
    |nil =>
     have h:jT [d] H (λp G=>G[d]?=Y (.bu p.2)->K (.lst (iA p.1)) G) X (gn (bX (oM ids)) ((xe x).bind λk=>.ok ([k],[(w.1.txt,.int m)]))):=h;refine a9 h.gr λi h=>?_;have i:ids=[]:=by cases ids with|nil=>rfl|cons=>exact bD i
     subst i;have D:dD ((H++[bS [.tok w b a,x] 0 r c]).set H.length (bS [.tok w b a,x] (0+1) r c)) H.length [.tok w b a,x] 1 r c:=eS S _;have f:((H++[bS [.tok w b a,x] 0 r c]).set H.length (bS [.tok w b a,x] (0+1) r c))[d]?=Y (.bu []):=by rw[acF (acb M)];exact A
     have nv:Up [d] H ((H++[bS [.tok w b a,x] 0 r c]).set H.length (bS [.tok w b a,x] (0+1) r c)):=z.st E _;generalize ((H++[bS [.tok w b a,x] 0 r c]).set H.length (bS [.tok w b a,x] (0+1) r c))=G at D f nv ⊢;refine bL (by walk_at "e") (bM (by walk_at "e") (fW (bL (bb (by walk_at "e") (af rfl) (ad7 f)) (JH (af rfl) (af rfl) (by walk_at "e") (RM f rfl) ?_))));have y:dD (G.set d (.bu (fN w.1.txt (.int m) []))) H.length [.tok w b a,x] 1 r c:=by
      show(G.set d _)[H.length]?=_;rw[acF M];exact D
     have B:(G.set d (.bu (fN w.1.txt (.int m) [])))[d]?=Y (.bu [(w.1.txt,.int m)]):=eS f _;have I:Up [d] H (G.set d (.bu (fN w.1.txt (.int m) []))):=nv.t (Up.s1 f _);generalize (G.set d (.bu (fN w.1.txt (.int m) [])))=G at y B I ⊢;refine fo (MN (A0 (K0:=λ(_:Int) _=>True) y p.nx (af rfl) ?_));have L:=I.st E (bS [.tok w b a,x] (1+1) r c);have T:dD (G.set H.length (bS [.tok w b a,x] (1+1) r c)) H.length [.tok w b a,x] 2 r c:=eS y _;have Q:(G.set H.length (bS [.tok w b a,x] (1+1) r c))[d]?=Y (.bu [(w.1.txt,.int m)]):=by rw[acF (acb M)];exact B
     refine Uz (h.bd L λv F e h=>?_);refine c6 (MS (K0:=λ(_:Int) _=>True) (e.g T) p.nx.nx (af rfl) ?_);exact cy (v:=.lst (iA [v])) (λK X k=>k) (h F (L.t e.u) (e.g Q))
theorem sn(h:G[a]?=x)(e:b≠a):(G.set b m)[a]?=x:=by rw[acF e];exact h
theorem sS(h:a≠b):bx a [b]=UA:=by
 show cond (VH a b) W UA=UA;cases q:VH a b with|false=>rfl|true=>exact(h (VW q)).elim
theorem sT(h:a≠b)(h2:a≠c):bx a [b,c]=UA:=by
 show cond (VH a b) W (bx a [c])=UA;cases q:VH a b with|false=>exact sS h2|true=>exact(h (VW q)).elim
theorem QQ(h:bx a [b,c]=UA):bx a [b]=UA:=by
 have h:cond (VH a b) W (bx a [c])=UA:=h;cases q:VH a b with
 |true=>rw[q]at h;exact w5 h
 |false=>show cond (VH a b) W UA=UA;rw[q];rfl
theorem Up.set(h:Up ps H G)(e:bx d ps=W):Up ps H (G.set d m):=λk x e' n=>by
 rw[acF λq=>by rw[q,n]at e;exact bD e];exact h k x e' n
def zQ(ps:List Int)(a:List (Str×O)):List Itm->Res (List Int×List (Str×O)×List Itm)
 | []=>.ok (ps,a,[])
 |it::r=>cond (kF gq (it::r)) ((CO a ps.length it).bind λq=>gn (bw (ps++q.1) 1000) (zQ (ps++q.1) q.2 r)) (.ok (ps,a,it::r))
def oY(rs:List Int):List Itm->Res (List Int×List Itm)
 | []=>.ok (rs,[])
 |it::r=>cond (kF fh (it::r)) ((sP it).bind λks=>gn (bw (rs++ks) 1000) (oY (rs++ks) r)) (.ok (rs,it::r))
def DO(t:List Itm):Res ((List Int×List Int)×List (Str×O)×List Itm):=(zQ [] [] t).bind λq=>(oY [] q.2.2).bind λu=>.ok ((q.1,u.1),q.2.1,u.2)
def cR(q:List Int×List Int):O:=.tup [.tup (iA q.1),.tup (iA q.2)]
def oz(is:List Itm)(d j r c:Nat)(K:bp)(q:(List Int×List Int)×List (Str×O)×List Itm)(G:List MO):Prop :=∀a,Ps is a q.2.2->dD G j is a r c->G[d]?=Y (.bu q.2.1)->K (cR q.1) G
theorem EJ(h:kF q (it::t)=W)(hq:(fj == q)=UA):∃a is r c,it = .br (a::is) r c:=by
 cases it with
 |tok=>exact bD h
 |br is r c =>
  have h:(dQ (.br is r c) == q)=W:=h;cases is with
  |nil=>rw[show dQ (.br [] r c)=fj from rfl,hq]at h;exact bD h
  |cons a is=>exact⟨a,is,r,c,rfl⟩
theorem PM(l:List Int):(iA l).length=l.length:=VO ..
theorem Qz(h:H[k]?=Y (.lst (iA l)))(f:bw l 1000=W):jM (.ref k) H=Y (.int l.length):=by
 rw[ny h (pQ f),PM]
inductive Yb (is:List Itm) (j d pa pb r c:Nat) (H:List MO) (K:bp) (X:KX) (t:List Itm) (e:En) (G:List MO):Prop
 |mk (k:Nat) (ps:List Int) (ids:List (Str×O)) (he:e=[Y (.ref j),Y (.ref d),Y (.ref pa),Y (.ref pb)]) (p:Ps is k t) (hj:dD G j is k r c) (hd:G[d]?=Y (.bu ids)) (ha:G[pa]?=Y (.lst (iA ps))) (hb:G[pb]?=Y (.lst [])) (le:Up [d,j] H G) (hps:bw ps 1000=W)
  (h:jT [d,j] H (oz is d j r c K) X ((zQ ps ids t).bind λq=>(oY [] q.2.2).bind λu=>.ok ((q.1,u.1),q.2.1,u.2)))
inductive X9 (is:List Itm) (j d pa pb r c:Nat) (ids:List (Str×O)) (ps:List Int) (H:List MO) (K:bp) (X:KX) (t:List Itm) (e:En) (G:List MO):Prop
 |mk (k:Nat) (rs:List Int) (he:e=[Y (.ref j),Y (.ref d),Y (.ref pa),Y (.ref pb)]) (p:Ps is k t) (hj:dD G j is k r c) (hd:G[d]?=Y (.bu ids)) (ha:G[pa]?=Y (.lst (iA ps))) (hb:G[pb]?=Y (.lst (iA rs))) (le:Up [d,j] H G) (hrs:bw rs 1000=W)
  (h:jT [d,j] H (oz is d j r c K) X ((oY rs t).bind λu=>.ok ((ps,u.1),ids,u.2)))
theorem ahy(dj:d≠j)(jn:pa≠j)(dn:pa≠d)(ab:pa≠pb)(y:pb≠j)(M:pb≠d)(n2:H[pb]?=Sa)(hps:bw ps 1000=W)(p:Ps is k t)(l:dD G0 j is k r c)(I:G0[d]?=Y (.bu ids))(E:G0[pa]?=Y (.lst (iA ps)))(hb:G0[pb]?=Y (.lst []))(le:Up [d,j] H G0)(h:jT [d,j] H (oz is d j r c K) X ((oY [] t).bind λu=>.ok ((ps,u.1),ids,u.2))): ak arq (aV (au [ku aB,ku aW])) [Y (.ref j),Y (.ref d),Y (.ref pa),Y (.ref pb)] G0 (d6 K) (λC fs _ H=>X C fs H):=by
 show gm _ _ _ _ _ _;refine ve (λt=>t.length) (X9 is j d pa pb r c ids ps H K X) ?_ t ?_ ?_
 .intro t e G go T z;cases z with
  |mk k rs he p l I E hb le hrs h =>
  subst he;have hi:=IA (e:=[Y (.ref j),Y (.ref d),Y (.ref pa),Y (.ref pb)]) (o:=Loc 0) (q:=fh) l p (af rfl);refine bc (b:=kF fh t) (λhq=>?_) λhq=>?_
  .rw[hq]at hi;refine hi _ _ (cT rfl ?_);cases t with
   |nil=>exact bD hq
   |cons it f =>
    have h:jT [d,j] H (oz is d j r c K) X ((cond (kF fh (it::f)) ((sP it).bind λks=>gn (bw (rs++ks) 1000) (oY (rs++ks) f)) (.ok (rs,it::f))).bind λu=>.ok ((ps,u.1),ids,u.2)):=h;rw[hq]at h;simp only[cond_true,Res.tQ,Res.yz]at h;have i:=p.sm;refine De (EJ hq rfl) λh0 a L D B=>?_;subst B;refine hO (af rfl) (hZ hb) yt ?_;have N:=sn (m:=bS is (k+1) r c) E (acb jn);have Q:=sn (m:=bS is (k+1) r c) hb (acb y);have S:=sn (m:=bS is (k+1) r c) I (acb dj);have Z:dD (G.set j (bS is (k+1) r c)) j is (k+1) r c:=eS l _;have A:=le.set (d:=j) (m:=bS is (k+1) r c) (by show cond (VH j d) W (cond (VH j j) W UA)=W;rw[alA];cases VH j d<;>rfl);have w:Le (G.set j (bS is (k+1) r c)) ((G.set j (bS is (k+1) r c)++[bS a 0 L D]).set (G.set j (bS is (k+1) r c)).length (bS a a.length L D)):=(Le.n _ _).st (iJ _) _;refine Ng (G:=(G.set j (bS is (k+1) r c)++[bS a 0 L D]).set (G.set j (bS is (k+1) r c)).length (bS a a.length L D)) (t:=a) (λK' X' hk=>?_) (Ps.AX i).s (h.bd (A.t w.u) λks F e h=>?_)
    .exact A3 l p (af rfl) (J3 i (MR (o:=aL (.ref (G.set j (bS is (k+1) r c)).length)) (e:=[]) (ef _ _) (Ps.AX i) ax hk))
    .refine a9 h.gr λhg h=>?_;have x:=e.g (w.g Q);refine oI (xH x rfl (by rw[←nh];exact pQ hg)) ?_;refine T f _ _ (af5 _) ⟨k+1,rs++ks,rfl,p.nx,sn (e.g (w.g Z)) y,sn (e.g (w.g S)) M,sn (e.g (w.g N)) (acb ab),?_,((A.t w.u).t e.u).st n2 _,hg,h⟩;rw[eS x,nh]
  .rw[hq]at hi;refine hi _ _ (cF rfl ?_);have h:jT [d,j] H (oz is d j r c K) X (.ok ((ps,rs),ids,t)):=by
    cases t with
    |nil=>exact h
    |cons it f =>
     have h:jT [d,j] H (oz is d j r c K) X ((cond (kF fh (it::f)) ((sP it).bind λks=>gn (bw (rs++ks) 1000) (oY (rs++ks) f)) (.ok (rs,it::f))).bind λu=>.ok ((ps,u.1),ids,u.2)):=h;rw[hq]at h;exact h
   exact cy (v:=cR (ps,rs)) (c9 (aj (ya (af rfl) (kU E) (pQ hps)) (aj (ya (af rfl) (kU hb) (pQ hrs)) aC)) rfl) (h G le k p l I)
 .have:=p.len;have:=p.s;show t.length < 3000;lia
 .exact⟨k,[],rfl,p,l,I,E,hb,le,rfl,h⟩
theorem ahC(p:Ps is k t)(w:dD H j is k r c)(l:H[d]?=Y (.bu []))(h:jT [d,j] H (oz is d j r c K) X (DO t)):yq [.ref j,.ref d] H K X:=by
 unfold yq;refine fun2 (i6 ?_);have B:=iJ H;have dj:d≠j:=λq=>by rw[q]at l;rw[show H[j]?=Y (bS is k r c) from w]at l;cases l
 have T:H.length≠j:=λq=>by rw[q]at B;rw[show H[j]?=Y (bS is k r c) from w]at B;exact gJ B
 have S:H.length≠d:=λq=>by rw[q,l]at B;exact gJ B
 have D:H[(H++[MO.lst []]).length]?=Sa:=by rw[aat,VK];lia
 have Q:H.length≠(H++[MO.lst []]).length:=by rw[VK];simp only[WB,akf];lia
 have y:(H++[MO.lst []]++[MO.lst []])[H.length]?=Y (.lst []):=(Le.n _ _).g (ef H _);have hb:(H++[MO.lst []]++[MO.lst []])[(H++[MO.lst []]).length]?=Y (.lst []):=ef _ _;have le:Up [d,j] H (H++[MO.lst []]++[MO.lst []]):=(Up.r.nn _).nn _;have f:dD (H++[MO.lst []]++[MO.lst []]) j is k r c:=(Le.n _ _).g ((Le.n _ _).g w);have a:(H++[MO.lst []]++[MO.lst []])[d]?=Y (.bu []):=(Le.n _ _).g ((Le.n _ _).g l);show ak (gm _ _) _ [Y (.ref j),Y (.ref d),Y (.ref H.length),Y (.ref (H++[MO.lst []]).length)] (H++[.lst []]++[.lst []]) _ _;generalize (H++[MO.lst []]).length=Z at D Q hb ⊢;generalize H.length=pa at B T S Q y ⊢;have N:Z≠j:=λq=>by rw[q]at D;rw[show H[j]?=Y (bS is k r c) from w]at D;exact gJ D
 have E:Z≠d:=λq=>by rw[q,l]at D;exact gJ D
 generalize (H++[MO.lst []]++[MO.lst []])=G0 at y hb le f a ⊢;refine ve (λt=>t.length) (Yb is j d pa Z r c H K X) ?_ t ?_ ?_
 .intro t e G go hgo z;cases z with
  |mk k ps i he p w l y hb le M h =>
  subst he;have hi:=IA (e:=[Y (.ref j),Y (.ref d),Y (.ref pa),Y (.ref Z)]) (o:=Loc 0) (q:=gq) w p (af rfl);refine bc (b:=kF gq t) (λhq=>?_) λhq=>?_
  .rw[hq]at hi;refine hi _ _ (cT rfl ?_);cases t with
   |nil=>exact bD hq
   |cons it x =>
    have h:jT [d,j] H (oz is d j r c K) X ((cond (kF gq (it::x)) ((CO i ps.length it).bind λq=>gn (bw (ps++q.1) 1000) (zQ (ps++q.1) q.2 x)) (.ok (ps,i,it::x))).bind λq=>(oY [] q.2.2).bind λu=>.ok ((q.1,u.1),q.2.1,u.2)):=h;rw[hq]at h;simp only[cond_true,Res.tQ,Res.yz]at h;refine hO (af rfl) (hZ y) yt ?_;refine A3 w p (af rfl) ?_;have A:=sn (m:=bS is (k+1) r c) y (acb T);have L:=sn (m:=bS is (k+1) r c) hb (acb N);have a:=sn (m:=bS is (k+1) r c) l (acb dj);have f:dD (G.set j (bS is (k+1) r c)) j is (k+1) r c:=eS w _;have C:=le.set (d:=j) (m:=bS is (k+1) r c) (by show cond (VH j d) W (cond (VH j j) W UA)=W;rw[alA];cases VH j d<;>rfl);generalize (G.set j (bS is (k+1) r c))=G1 at A L a f C ⊢;refine jX (xs:=[.ref d,.int ps.length]) (aj (af rfl) (aj (de (af rfl) (Qz A M)) aC)) ?_;refine aeN p.sm a (h.bdU C (λ_=>QQ) λq F e h B8=>?_);refine a9 h.gr λhg h=>?_;have I:=e _ _ A (sS S);refine oI (xH I rfl (by rw[←nh];exact pQ hg)) ?_;refine hgo x _ _ (af5 _) ⟨k+1,ps++q.1,q.2,rfl,p.nx,sn (e _ _ f (sS (acb dj))) T,sn B8 S,?_,sn (e _ _ L (sS E)) Q,(C.t (e.sub λ_=>QQ)).st B _,hg,h⟩;rw[eS I,nh]
  .rw[hq]at hi;refine hi _ _ (cF rfl ?_);have h:jT [d,j] H (oz is d j r c K) X ((oY [] t).bind λu=>.ok ((ps,u.1),i,u.2)):=by
    cases t with
    |nil=>exact h
    |cons it x =>
     have h:jT [d,j] H (oz is d j r c K) X ((cond (kF gq (it::x)) ((CO i ps.length it).bind λq=>gn (bw (ps++q.1) 1000) (zQ (ps++q.1) q.2 x)) (.ok (ps,i,it::x))).bind λq=>(oY [] q.2.2).bind λu=>.ok ((q.1,u.1),q.2.1,u.2)):=h;rw[hq]at h;exact h
   exact ahy dj T S Q N E D M p w l y hb le h
 .have:=p.len;have:=p.s;show t.length < 3000;lia
 .exact⟨k,[],[],rfl,p,f,a,y,hb,le,rfl,h⟩
end
abbrev Kd:=List Int×List Int
noncomputable def vf:List Int->List Int->Bool
 | [],m=>(match m with | []=>W|_::_=>UA)
 |a::l,m=>match m with | []=>UA|b::m=>cond (a == b) (vf l m) UA
def j8(a b:Kd):Bool:=cond (vf a.1 b.1) (vf a.2 b.2) UA
section
variable{H:List MO}
theorem Ry(n:Nat):∀l:List Int,eQ (toPy H (n+1)) (iA l)=Y (l.map .int):=by
 intro l;induction l with
 |nil =>
  exact rfl
 |cons a l b =>
  exact by
   show((eQ (toPy H (n+1)) (iA l)).bind λds=>Y (.int a::ds))=_;rw[b];rfl
theorem Ff:∀l m:List Int,alL (l.map .int) (m.map .int)=vf l m
 | [],[]=>rfl
 | [],_::_=>rfl
 |_::_,[]=>rfl
 |a::l,b::m=>by
  show(aaI (.int a) (.int b)&&alL (l.map .int) (m.map .int))=cond (a == b) (vf l m) UA;rw[Ff l m];show((a == b)&&_)=_;cases (a == b)<;>rfl
theorem Ru(n:Nat):∀l:List Int,b8 (fM (n+1)) (l.map .int)=W:=by
 intro l;induction l with
 |nil =>
  exact rfl
 |cons a l b =>
  exact b
theorem RP(q:Kd):toPy H cY (cR q)=Y (.tuple [.tuple (q.1.map .int),.tuple (q.2.map .int)]):=by
 show(((eQ (toPy H 48) (iA q.1)).map aoJ).bind λd=>(((eQ (toPy H 48) (iA q.2)).map aoJ).bind λd=>Y [d]).bind λds=>Y (d::ds)).map aoJ=_;rw[Ry 47,Ry 47];rfl
theorem Rt(q:Kd):fM cY (.tuple [.tuple (q.1.map .int),.tuple (q.2.map .int)])=W:=by
 show cond (b8 (fM 48) (q.1.map .int)) (cond (b8 (fM 48) (q.2.map .int)) W UA) UA=W;rw[Ru 47,Ru 47];rfl
theorem NV(a b:Kd):bf (cR a) (cR b) H=Y (j8 a b):=by
 have e1:(jI (cR a) (cR b) λa b=>Y (a == b))=Sa:=rfl;have e2:((aS (cR a)).bind λx=>(aS (cR b)).bind λy=>Y (x == y))=Sa:=rfl;have e:wd (cR a) (cR b) H=Sa:=rfl;unfold bf;rw[e1,e2,e];show ji _ _ _=_;unfold ji;rw[RP,RP];show gd (fM cY (.tuple [.tuple (a.1.map .int),.tuple (a.2.map .int)])&&fM cY (.tuple [.tuple (b.1.map .int),.tuple (b.2.map .int)])) (Y (alL (a.1.map .int) (b.1.map .int)&&(alL (a.2.map .int) (b.2.map .int)&&W)))=_;rw[Rt,Rt,Ff,Ff];unfold j8;cases vf a.1 b.1<;>cases vf a.2 b.2<;>rfl
end
set_option genCtorIdx true in
inductive jw where|type|func|table|memory|global|elem|data
noncomputable def jw.q:jw->Str | .type=>ej | .func=>gc | .table=>dh | .memory=>fS | .global=>gC | .elem=>iC | .data=>il
noncomputable def jw.n:jw->Nat | .type=>0 | .func=>1 | .table=>2 | .memory=>3 | .global=>4 | .elem=>5 | .data=>6
noncomputable def jw.un:jw->Str
 | .type=>⟨⟨[117,110,107,110,111,119,110,32,116,121,112,101,32]⟩⟩| .func=>⟨⟨[117,110,107,110,111,119,110,32,102,117,110,99,116,105,111,110,32]⟩⟩
 | .table=>⟨⟨[117,110,107,110,111,119,110,32,116,97,98,108,101,32]⟩⟩| .memory=>⟨⟨[117,110,107,110,111,119,110,32,109,101,109,111,114,121,32]⟩⟩
 | .global=>⟨⟨[117,110,107,110,111,119,110,32,103,108,111,98,97,108,32]⟩⟩| .elem=>⟨⟨[117,110,107,110,111,119,110,32,101,108,101,109,32,115,101,103,109,101,110,116,32]⟩⟩
 | .data=>⟨⟨[117,110,107,110,111,119,110,32,100,97,116,97,32,115,101,103,109,101,110,116,32]⟩⟩
abbrev ct:=jw->List (Str×Int)
noncomputable def dA(l:List (Str×Int)):List (Str×O):=l.map λp=>(p.1,.int p.2)
def Ii(s:Nat):List (Str×O):=[(ej,.ref (s+4)),(gc,.ref (s+5)),(dh,.ref (s+6)),(fS,.ref (s+7)),(gC,.ref (s+8)),(iC,.ref (s+9)),(il,.ref (s+10))]
def IU(m:Int):List (Str×O):=[(ej,.int m),(gc,.int 0),(dh,.int 0),(fS,.int 0),(gC,.int 0),(iC,.int 0),(il,.int 0)]
structure da (H:List MO) (s:Nat) (Γ:ct) (ks:List Kd):Prop where
 sp:H[s]?=Y (.inst 770 [(iS,.ref (s+1)),(mn,.ref (s+2)),(fg,.ref (s+3))])
 ids:H[s+1]?=Y (.bu (Ii s))
 many:∃m,H[s+2]?=Y (.bu (IU m))
 kinds:H[s+3]?=Y (.lst (ks.map cR))
 tb:∀i:jw,H[s+4+i.n]?=Y (.bu (dA (Γ i)))
section
variable{K:bp}{X:KX}{H G:List MO}{is:List Itm}{k:Nat}{it:Itm}{t:List Itm}{j r c d s:Nat}{Γ:ct}{ks:List Kd}
theorem da.up(h:da H s Γ ks)(u:Up ps H G)(n:∀i,i < 11->bx (s+i) ps=UA):da G s Γ ks :=⟨u _ _ h.sp (n 0 (by decide)),u _ _ h.ids (n 1 (by decide)),h.many.elim λm e=>⟨m,u _ _ e (n 2 (by decide))⟩,u _ _ h.kinds (n 3 (by decide)),λi=>u _ _ (h.tb i) (by have:=n (4+i.n) (by cases i<;>decide);rw[←ami]at this;exact this)⟩
theorem da.le(h:da H s Γ ks)(u:Le H G):da G s Γ ks:=h.up u λ_ _=>rfl
theorem Ik(h:H[d]?=Y (.bu fs))(a:look q fs=Y v):aN bd (.ref d) (.str q) H=Y v:=by
 unfold aN;rw[xF h];have e2:listOf H (.ref d)=Sa:=by show H[d]?.bind mA=_;rw[h];rfl
 rw[e2];exact a
theorem Q2(h:H[d]?=Y (.bu fs)):wA (.str q) (.ref d) H=Y (!uO (look q fs)):=by
 unfold wA zv;rw[xF h];have e2:listOf H (.ref d)=Sa:=by show H[d]?.bind mA=_;rw[h];rfl
 rw[e2];rfl
theorem CU(q:Str):∀l:List (Str×Int),look q (dA l)=(look q l).map .int:=by
 intro l;induction l with
 |nil =>
  exact rfl
 |cons p l a =>
  exact by
   show cond (dF q p.1) (Y (O.int p.2)) (look q (dA l))=(cond (dF q p.1) (Y p.2) (look q l)).map _;rw[a];cases dF q p.1<;>rfl
def wY(Γ:ct)(i:jw)(w:Wd)(r c:Nat):Res Int :=cond (eD w.sort) (match look w.txt (Γ i) with|some v=>.ok v|none=>.bad (i.un++w.txt) r c) (DV w r c)
theorem ZV{i:jw}{w:OW}:aX (.str i.un) (.str w.1.txt) H=Y (.str (i.un++w.1.txt)):=by
 show alt Sa (alt (gd (fits (i.un.cps.toList++w.1.txt.cps.toList)) (Y (O.str (i.un++w.1.txt)))) _)=_;have:fits (i.un.cps.toList++w.1.txt.cps.toList)=W:=c8 (by
  rw[VK];have h1:=c7 w.2.len;have h2:i.un.cps.toList.length<=30:=by cases i<;>decide
  lia)
 rw[this];rfl
theorem Im{i:jw}(S:da H s Γ ks)(h:Out H (λv=>K (.int v)) X (wY Γ i w.1 r c)):kJ [.ref s,.str i.q,aH (.tok w r c)] H K X:=by
 unfold kJ;refine kM ?_;have hi:Ev _ _ _ (O.bool (eD w.1.sort)):=ad1 (e:=Y (O.ref s)::Y (.str i.q)::Y (aH (.tok w r c))::dS 0) (H:=H) (a:=Loc 2) (it:=.tok w r c) (af rfl);unfold wY at h;refine bc (b:=eD w.1.sort) (λy=>?_) λy=>?_
 .rw[y]at h hi;refine bL (by walk_at "e") ?_;have m:Ev arM (Y (O.ref s)::Y (.str i.q)::Y (aH (.tok w r c))::dS 0) H (.ref (s+4+i.n)):=bB (cu (af rfl) (eU S.sp rfl rfl) rfl) (af rfl) (Ik S.ids (by cases i<;>rfl));have l:Ev (aw b9 [202] [] aB) (Y (O.ref s)::Y (.str i.q)::Y (aH (.tok w r c))::dS 0) H (.str w.1.txt):=by walk_at "e"
  have f:=Q2 (q:=w.1.txt) (S.tb i);rw[CU]at f;have h:Out H (λv=>K (.int v)) X (match look w.1.txt (Γ i) with|some v=>.ok v|none=>.bad (i.un++w.1.txt) r c):=h;cases p:look w.1.txt (Γ i) with
  |none =>
   rw[p]at h f;refine bM (bb l m f) (s9 (it:=.tok w r c) rfl ?_ h.kB);exact bB (x:=.str i.un) (by cases i<;>exactλK X k=>k) l ZV
  |some v =>
   rw[p]at h f;exact bL (bb l m f) (cy (v:=.int v) (bB m l (Ik (S.tb i) (by rw[CU,p];rfl))) (h H Up.r))
 .rw[y]at h hi;exact bM (by walk_at "e") (qy (cG (aj (af rfl) aC) (J0 h)))
end
def vQ(q:Kd):List Kd->Option Nat
 | []=>Sa
 |a::r=>cond (j8 a q) (Y 0) ((vQ q r).map λn=>n+1)
def y8(ks:List Kd)(q:Kd):Res (Nat×List Kd):=match vQ q ks with
 |some n=>.ok (n,ks)
 |none=>.ok (ks.length,ks++[q])
section
variable{K:bp}{X:KX}{H G:List MO}{is:List Itm}{k:Nat}{it:Itm}{t:List Itm}{j r c d s:Nat}{Γ:ct}{ks:List Kd}{q:Kd}
theorem E9{b:Type}{x:Option b}{P:b->Prop}{a:b}(h:x=Y a)(k:P a):eP x P p:=by rw[h];exact k
theorem acU(z:H[s+3]?=Y (.lst (ks.map cR))):∀(t:List Kd) (i n:Nat) (x y:Option O),ks.drop i=t->t.length < n -> (∀m,vQ q t=Y m->∀e,Kf (.ret (.int (i+m:Nat))) e H)->(vQ q t=Sa->∀x y,Kf .next [Y (.ref s),Y (cR q),x,y] H)-> forR (.tp [2,3]) (aY (aF bf aW ay) (aV aB) bh) Kf XE (s+3) W n i [Y (.ref s),Y (cR q),x,y] H:=by
 intro t;induction t with
 |nil =>
  intro i n x y h l p hx;cases n with
  |zero=>cases l
  |succ n =>
   refine oI (a:=ks.map cR) (by rw[z];rfl) ?_;have e:(ks.map cR)[i]?=Sa:=by rw[aeQ,←alg,h];rfl
   rw[e];exact hx rfl x y
 |cons a t A =>
  intro i n x y h l p hx;cases n with
  |zero=>cases l
  |succ n =>
   refine oI (a:=ks.map cR) (by rw[z];rfl) ?_;have e:(ks.map cR)[i]?=Y (cR a):=by rw[aeQ,←alg,h];rfl
   refine E9 e (oI (x:=zP _ _ _) (a:=[Y (.ref s),Y (cR q),Y (.int i),Y (cR a)]) rfl ?_);have f:Ev (aF bf aW ay) [Y (.ref s),Y (cR q),Y (.int i),Y (cR a)] H (j8 a q):=bb (af rfl) (af rfl) (NV a q);refine bc (b:=j8 a q) (λhb=>?_) λhb=>?_
   .rw[hb]at f;refine lC f (cy (v:=.int i) (af rfl) (p 0 ?_ _));show cond (j8 a q) _ _=_;rw[hb];rfl
   .rw[hb]at f;refine jH f ?_;have w:vQ q (a::t)=(vQ q t).map λn=>n+1:=by show cond (j8 a q) _ _=_;rw[hb];rfl
    refine A (i+1) n _ _ (by rw[akF,h];rfl) (amc l) (λm hm e=>?_) λhm=>hx (by rw[w,hm];rfl);have:=p (m+1) (by rw[w,hm];rfl) e;rw[show i+1+m=i+(m+1) by lia];exact this
theorem IE(ks:List Kd):(ks.map cR).length=ks.length:=VO ..
theorem ae2(h:H[k]?=Y (.lst (ks.map cR)))(f:bw ks 1000=W):jM (.ref k) H=Y (.int ks.length):=by
 rw[ny h (c8 (by rw[IE];have:=c7 f;lia)),IE]
theorem aeM(S:da H s Γ ks)(f:bw ks 1000=W)(h:dO [s+2,s+3] es H (λp G=>da G s Γ p.2->K (.int p.1) G) X (y8 ks q)):yj [.ref s,cR q] H K X:=by
 unfold yj;refine fun2 ?_;have D:∀{e:En},e[0]?=Y (Y (.ref s))->Ev (aw fg [770] [] ai) e H (.ref (s+3)):=λhe=>cu (af he) (eU S.sp rfl rfl) rfl;show xn _ _ _ _ _ _ _;refine cast Og.symm (D rfl _ _ ?_);show oP _ _;refine oI (tO S.kinds) ?_;unfold y8 at h;refine acU S.kinds ks 0 3000 Sa Sa rfl (by have:=c7 f;lia) (λm hm e=>?_) λhm x y=>?_
 .rw[hm]at h;rw[akE];exact h H Up.r S
 .rw[hm]at h;refine c6 (hO (D rfl) (hZ S.kinds) kL (jX (xs:=[cR q]) (aj (af rfl) aC) (oI (lQ S.kinds (c8 (by rw[IE];have:=c7 f;lia))) ?_)));have l:(H.set (s+3) (.lst (ks.map cR++[cR q])))[s+3]?=Y (.lst ((ks++[q]).map cR)):=by rw[eS S.kinds,akG];rfl
  have b:(H.set (s+3) (.lst (ks.map cR++[cR q])))[s]?=Y (.inst 770 [(iS,.ref (s+1)),(mn,.ref (s+2)),(fg,.ref (s+3))]):=sn S.sp (by lia);refine VF S.many λm kO=>?_;have a:=sn (m:=.lst (ks.map cR++[cR q])) kO (show s+3≠s+2 by lia);have w:=sn (m:=.lst (ks.map cR++[cR q])) S.ids (show s+3≠s+1 by lia);have A:=λi=>sn (m:=.lst (ks.map cR++[cR q])) (S.tb i) (show s+3≠s+4+i.n by lia);have B:Up [s+2,s+3] H (H.set (s+3) (.lst (ks.map cR++[cR q]))):=Up.r.set (by show cond (VH (s+3) (s+2)) W (cond (VH (s+3) (s+3)) W UA)=W;rw[alA];cases VH (s+3) (s+2)<;>rfl);generalize (H.set (s+3) (.lst (ks.map cR++[cR q])))=G at l b a w A B ⊢;have z:∀{e:En}{C:List MO},e[0]?=Y (Y (.ref s))->C[s]?=Y (.inst 770 [(iS,.ref (s+1)),(mn,.ref (s+2)),(fg,.ref (s+3))])->C[s+3]?=Y (.lst ((ks++[q]).map cR))->Ev asq e C (.int (ks.length+1:Nat)):=λhe h1 h2=>de (cu (af he) (eU h1 rfl rfl) rfl) (by
   rw[ny h2 (c8 (by rw[VO,VK];simp only[WB,akf];have:=c7 f;lia)),VO,VK];rfl)
  refine JH (z rfl b l) (cu (af rfl) (eU b rfl rfl) rfl) ax (RM a rfl) ?_;refine cy (v:=.int ks.length) (bB (z rfl (sn b (by lia)) (sn l (by lia))) ax ?_) (h _ (B.set (by show cond (VH (s+2) (s+2)) W _=W;rw[alA];rfl)) ?_)
  .show Y (O.int ((ks.length+1:Nat) - 1:Int))=_;rw[show((ks.length+1:Nat) - 1:Int)=ks.length by lia]
  .exact⟨sn b (by lia),sn w (by lia),⟨(ks.length+1:Nat),eS a _⟩,sn l (by lia),λi=>sn (A i) (by lia)⟩
end
def Uo(a:ct)(t:List Itm):Res (Option Int×List Itm):=cond (kF ej t) (match t with
 | .br (_ :: .tok w r1 c1::is') _ _::t'=>(wY a .type w.1 r1 c1).bind λn=>(match is' with | []=>.ok (Y n,t')|x::_=>.bad aq x.r x.c)
 | .br [_] r c::_=>.bad aq r c
 |_=>.stuck) (.ok (Sa,t))
noncomputable def rT:List Itm->Nat | []=>0|it::_=>it.r
noncomputable def EN:List Itm->Nat | []=>0|it::_=>it.c
def xP(ks:List Kd)(n:Int)(q:Kd)(r c:Nat):Res Unit:=cond (j8 q ([],[])) (.ok ())
 (cond (decide ((ks.length:Int)<=n)) (match toStr n with|some z=>gn (bw z.cps.toList 100) (.bad (nM++z) r c)|none=>.stuck)
  (match n with | .ofNat m=>(match ks[m]? with|some a=>cond (j8 a q) (.ok ()) (.bad s8 r c)|none=>.stuck)| .negSucc _=>.stuck))
def Uk(a:ct)(ks:List Kd)(t:List Itm):Res (Int×List (Str×O)×List Itm×List Kd) :=
 gn (bw ks 1000) ((Uo a t).bind λu=>(DO u.2).bind λq=>match u.1 with
  |none=>(y8 ks q.1).bind λp=>.ok ((p.1:Int),q.2.1,q.2.2,p.2)
  |some n=>(xP ks n q.1 (rT t) (EN t)).bind λ_=>.ok (n,q.2.1,q.2.2,ks))
section
variable{K:bp}{X:KX}{H G:List MO}{is:List Itm}{k:Nat}{it:Itm}{t:List Itm}{j r c d s:Nat}{Γ:ct}{ks:List Kd}{q:Kd}
def oD(is:List Itm)(s:Nat)(Γ:ct)(K:bp)(q:Int×List (Str×O)×List Itm×List Kd)(G:List MO):Prop :=∀a d,Ps is a q.2.2.1->G[d]?=Y (.bu q.2.1)->da G s Γ q.2.2.2->K (.tup [.int q.1,.ref d,.int a]) G
theorem dO.DU{a b:Type}{K:a->List MO->Prop}{K0:b->List MO->Prop}(h:dO ps es H K X (.bad why r c))(le:Up es H G):Out G K0 X (.bad why r c):=λF e=>h F (le.t (Le.u e))
theorem Le.no(le:Le H G):H[G.length]?=Sa:=by
 cases q:H[G.length]? with
 |none=>rfl
 |some m=>have:=le.g q;rw[iJ]at this;exact bN this
theorem ER{as:List (EM O)}(b:Ev a e H x)(hm:nA n tab x H=Y F)(h:Args as e H (λxs H=>F (x::xs) H K X) X):aM T n tab a as e H K X:=b _ _ (by
 show eP _ _ _;rw[hm];exact h)
theorem Z9{K:List O->List MO->Prop}(h:m e H (λy G=>K [v,y] G) X):Args [aL v,m] e H K X:=h
theorem C0(a b:Kd):dk (cR a) (cR b) H=Y (!j8 a b):=by unfold dk;rw[NV];rfl
theorem ad2(h:H[k]?=Y (.lst (ks.map cR)))(f:bw ks 1000=W)(hm:ks[m]?=Y k2):aN az (.ref k) (.int (m:Nat)) H=Y (cR k2) :=Qr h (by rw[aeQ,hm];rfl) (VT (WC.mp hm).1 (VR (c7 f) (by decide)))
theorem DD{as:List (EM O)}(h:M e H (λv G=>Args as e G (λxs G=>bP (fits (v::xs)) (KF' (.ret (.tup (v::xs))) e G)) (xE XE e)) (xE XE e)):aV (au (M::as)) e H KF' XE:=by
 conv=>whnf
 exact h
theorem acr(b:Ev a e H (.int i))(h:toStr i=Y z):Ev (Au a) e H (.str z):=λK X k=>b _ _ (oI (a:=z) h k)
theorem zM{m:EM O}{e:En}{C:SM}{K:KF}{X:KE}(k:aV m e H K X):ak (aV m) C e H K X:=k
theorem JP{B:SM}{K:KF}{X:KE}{e e':En}{H H':List MO}(he:e'=e)(a:H'=H)(k:B e H K X):lJ B K X .next e' H':=by subst he;subst a;exact k
theorem aix(p:Ps is k t)(S:da H s Γ ks)(h:d9 s H (oD is s Γ K) X (Uk Γ ks t)):BF [.ref s,.lst (aP is),.int k] H K X:=by
 unfold BF;refine kM (oX (xs:=[.int (rT t),.int (EN t)]) ?_ rfl (i6 ?_))
 .induction t using cL with
  |nil=>exact jz (by walk_at "e") (c9 (aj ax (aj ax aC)) rfl)
  |cons it t'=>exact lp (by walk_at "e") (show Ev _ _ _ (O.tup [O.int it.r,O.int it.c]) by walk_at "e")
 refine a9 h.gr λhks h=>?_;generalize rT t=f at h ⊢;generalize EN t=c0 at h ⊢;show aA vx _ _ _ _ _;refine cG (aj (af rfl) (aj (af rfl) (aj (af rfl) aC))) (Qn ?_);have T:=iJ H;have n2:H[(H++[bS is 0 f c0]).length]?=Sa:=by rw[aat,VK];omega
 have jd:H.length≠(H++[bS is 0 f c0]).length:=by rw[VK];simp only[WB,akf];omega
 have I:dD (H++[bS is 0 f c0]++[MO.bu []]) H.length is 0 f c0:=(Le.n _ _).g (ef H _);have Q:(H++[bS is 0 f c0]++[MO.bu []])[(H++[bS is 0 f c0]).length]?=Y (.bu []):=ef _ _;have le:Le H (H++[bS is 0 f c0]++[MO.bu []]):=(Up.r.nn _).nn _;conv=>whnf
 refine oI (oU I rfl) ?_;refine JP (e:=[Y (.ref s),Y (.lst (aP is)),Y (.int k),Y (.int f),Y (.int c0),Y (.ref H.length),Y (.ref (H++[bS is 0 f c0]).length),Y .none,Sa,Sa]) (H:=(H++[bS is 0 f c0]++[MO.bu []]).set H.length (bS is k f c0)) rfl rfl ?_;generalize (H++[bS is 0 f c0]).length=d at n2 jd Q ⊢;generalize H.length=j at T jd I ⊢;generalize (H++[bS is 0 f c0]++[MO.bu []])=G at I Q le ⊢;have I:dD (G.set j (bS is k f c0)) j is k f c0:=eS I _;have Q:=sn (m:=bS is k f c0) Q jd;have le:=le.st T (bS is k f c0);generalize (G.set j (bS is k f c0))=G at I Q le ⊢;have L:∀{k1:Nat}{t1:List Itm}{u:Option Int}{x8:Option O}{G:List MO},Ps is k1 t1->dD G j is k1 f c0->G[d]?=Y (.bu [])->Le H G ->
   d9 s H (oD is s Γ K) X ((DO t1).bind λq=>match u with
    |none=>(y8 ks q.1).bind λp=>.ok ((p.1:Int),q.2.1,q.2.2,p.2)
    |some n=>(xP ks n q.1 f c0).bind λ_=>.ok (n,q.2.1,q.2.2,ks)) ->
   ard [Y (.ref s),Y (.lst (aP is)),Y (.int k),Y (.int f),Y (.int c0),Y (.ref j),Y (.ref d),Y (mB u),x8,Sa] G (d6 K) (λC fs _ H=>X C fs H):=by
  intro k1 t1 u x8 G p I Q le h;refine fo (cG (aj (af rfl) (aj (af rfl) aC)) ?_);have A:∀{F:List MO},Up [d,j] G F->Le H F:=λe a m ea _=>by
   refine e a m (le a m ea rfl) (sT (λq=>?_) λq=>?_)
   .rw[q]at ea;rw[ea]at n2;exact gJ n2
   .rw[q]at ea;rw[ea]at T;exact gJ T
  refine ahC p I Q (h.vt (λF e=>A e) λq F e h k' p' hj' hd'=>?_);have S':=S.le (A e);have kE:∀{e:En},e[0]?=Y (Y (.ref s))->Ev (aw fg [770] [] ai) e F (.ref (s+3)):=λhe=>cu (af he) (eU S'.sp rfl rfl) rfl;have aE:∀{e:En}{F':List MO},e[5]?=Y (Y (.ref j))->dD F' j is k' f c0->Ev asn e F' (.int k'):=λhe h=>cu (af he) (vZ h) rfl;have js:bx j [s+2,s+3]=UA:=sT (λq=>by refine VF S.many λm e=>?_;rw[q,e]at T;exact gJ T) (λq=>by rw[q,S.kinds]at T;exact gJ T);have ds:bx d [s+2,s+3]=UA:=sT (λq=>by refine VF S.many λm e=>?_;rw[q,e]at n2;exact gJ n2) (λq=>by rw[q,S.kinds]at n2;exact gJ n2);induction u using cO with
  |none =>
   refine bM (by walk_at "e") (zM (DD (dB (af rfl) (cV S'.sp rfl) (aj (af rfl) aC) ?_)));refine aeM S' hks (h.vt (fs:=[]) (λF' e'=>((A e).t e')) λp2 F2 e2 h S2=>?_);refine jX (xs:=[.ref d,.int k']) (aj (af rfl) (aj (aE rfl (e2 _ _ hj' js)) aC)) (bI rfl ?_);exact h F2 ((A e).u.t e2) k' d p' (e2 _ _ hd' ds) S2
  |some n =>
   have L:d9 s H (oD is s Γ K) X (.ok (n,q.2.1,q.2.2,ks))->∀{e:En},e[5]?=Y (Y (.ref j))->e[6]?=Y (Y (.ref d))->e[7]?=Y (Y (.int n))->(aV (au [eV,bZ,asn])) e F (d6 K) (λC fs _ H=>X C fs H):=λh _ h5 h6 h7=>cy (v:=.tup [.int n,.ref d,.int k']) (c9 (aj (af h7) (aj (af h6) (aj (aE h5 hj') aC))) rfl) (h F (A e).u k' d p' hd' S');rw[show mB (Y n)=O.int n from rfl];refine bL (by walk_at "e") ?_;have hz:∀{e:En},Ev (au [au [],au []]) e F (cR ([],[])):=λK X k=>k;have h:d9 s H (oD is s Γ K) X ((xP ks n q.1 f c0).bind λ_=>.ok (n,q.2.1,q.2.2,ks)):=h;unfold xP at h;refine bc (b:=j8 q.1 ([],[])) (λhb=>?_) λhb=>?_
   .rw[hb]at h;exact bL (bb (t:=UA) (af rfl) hz (by rw[C0,hb];rfl)) (L h rfl rfl rfl)
   .rw[hb]at h;refine bM (bb (t:=W) (af rfl) hz (by rw[C0,hb];rfl)) (fW ?_);have hl:=ae2 S'.kinds hks;refine bc (b:=decide ((ks.length:Int)<=n)) (λhc=>?_) λhc=>?_
    .rw[hc]at h;have h:d9 s H (oD is s Γ K) X ((match toStr n with|some z=>gn (bw z.cps.toList 100) (Res.bad (nM++z) f c0)|none=>Res.stuck).bind λ(_:Unit)=>.ok (n,q.2.1,q.2.2,ks)):=h;cases hz:toStr n with
     |none=>rw[hz]at h;exact h.elim
     |some z =>
      rw[hz]at h;have h:d9 s H (oD is s Γ K) X ((gn (bw z.cps.toList 100) (Res.bad (nM++z) f c0)).bind λ(_:Unit)=>.ok (n,q.2.1,q.2.2,ks)):=h;rw[Res.yz]at h;refine a9 h.gr λhz1 h=>?_;have had:aX (.str nM) (.str z) F=Y (.str (nM++z)):=by
       show alt Sa (alt (gd (fits (nM.cps.toList++z.cps.toList)) (Y (O.str (nM++z)))) _)=_;have:fits (nM.cps.toList++z.cps.toList)=W:=c8 (by
        rw[VK];have h1:=c7 hz1;have h2:nM.cps.toList.length<=30:=by decide
        omega)
       rw[this];rfl
      exact bM (bb (af rfl) (de (kE rfl) hl) (Je hc)) (DC (aj (bB ax (acr (af rfl) hz) had) (aj (af rfl) (aj (af rfl) aC))) (h.sub (A e)).kB)
    .rw[hc]at h;refine bL (bb (af rfl) (de (kE rfl) hl) (Je hc)) ?_;have h:d9 s H (oD is s Γ K) X ((match n with | .ofNat m=>(match ks[m]? with|some k2=>cond (j8 k2 q.1) (Res.ok ()) (Res.bad s8 f c0)|none=>Res.stuck)| .negSucc _=>Res.stuck).bind λ(_:Unit)=>.ok (n,q.2.1,q.2.2,ks)):=h;induction n using Int.casesOn with
     |negSucc m=>exact h.elim
     |ofNat m =>
      have h:d9 s H (oD is s Γ K) X ((match ks[m]? with|some k2=>cond (j8 k2 q.1) (Res.ok ()) (Res.bad s8 f c0)|none=>Res.stuck).bind λ(_:Unit)=>.ok (.ofNat m,q.2.1,q.2.2,ks)):=h;cases hm:ks[m]? with
      |none=>rw[hm]at h;exact h.elim
      |some k2 =>
       rw[hm]at h;have h:d9 s H (oD is s Γ K) X ((cond (j8 k2 q.1) (Res.ok ()) (Res.bad s8 f c0)).bind λ(_:Unit)=>.ok (.ofNat m,q.2.1,q.2.2,ks)):=h;have hx:aN az (.ref (s+3)) (.int (m:Nat)) F=Y (cR k2):=ad2 S'.kinds hks hm;refine bc (b:=j8 k2 q.1) (λM=>?_) λM=>?_
       .rw[M]at h;exact bL (bb (t:=UA) (bB (kE rfl) (af rfl) hx) (af rfl) (by rw[C0,M];rfl)) (L h rfl rfl rfl)
       .rw[M]at h;exact bM (bb (t:=W) (bB (kE rfl) (af rfl) hx) (af rfl) (by rw[C0,M];rfl)) (DC (aj ax (aj (af rfl) (aj (af rfl) aC))) (h.sub (A e)).kB)
 have hi:=IA (e:=[Y (.ref s),Y (.lst (aP is)),Y (.int k),Y (.int f),Y (.int c0),Y (.ref j),Y (.ref d),Y .none,Sa,Sa]) (o:=Loc 5) (q:=ej) I p (af rfl);unfold Uo at h;refine bc (b:=kF ej t) (λhq=>?_) λhq=>?_
 .rw[hq]at h hi;induction t using cL with
  |nil=>exact bD hq
  |cons it t' =>
   have psm:=p.sm;refine De (EJ hq rfl) λh0 y r2 c2 zr_0=>?_;subst zr_0;refine bM hi (fW (fo (MN (A3 I p (af rfl) (J3 psm ?_)))));have D:dD (G.set j (bS is (k+1) f c0)) j is (k+1) f c0:=eS I _;have B:=sn (m:=bS is (k+1) f c0) Q jd;have l:=le.st T (bS is (k+1) f c0);generalize (G.set j (bS is (k+1) f c0))=E at D B l ⊢;have N:dD (E++[bS y 0 r2 c2]) E.length y 0 r2 c2:=ef _ _;have n3:=l.no;have nj:E.length≠j:=λq=>by have:=iJ E;rw[q]at this;rw[show E[j]?=Y _ from D]at this;exact gJ this
   have nd:E.length≠d:=λq=>by have:=iJ E;rw[q,B]at this;exact gJ this
   have D:dD (E++[bS y 0 r2 c2]) j is (k+1) f c0:=(Le.n _ _).g D;have B:=(Le.n E (bS y 0 r2 c2)).g B;have l:Le H (E++[bS y 0 r2 c2]):=l.t (Le.n _ _);generalize (E++[bS y 0 r2 c2])=G2 at D N B l ⊢;generalize E.length=j2 at N n3 nj nd ⊢;have pb:=Ps.AX psm;have S2:=S.le l;refine fW (fo (ER (af rfl) (cV S2.sp rfl) (Z9 ?_)));induction y using cL with
   |nil=>exact A0 (K0:=λ(_:Int) _=>True) N pb (af rfl) (dO.DU h l)
   |cons it2 Z=>induction it2 using Itm.casesOn with
   |br=>exact h.elim
   |tok w r1 c1 =>
    refine A3 N pb (af rfl) ?_;have h:d9 s H (oD is s Γ K) X (((wY Γ .type w.1 r1 c1).bind λn=>(match Z with | []=>.ok (Y n,t')|x::_=>.bad aq x.r x.c)).bind λu=>(DO u.2).bind λq=>match u.1 with
     |none=>(y8 ks q.1).bind λp=>.ok ((p.1:Int),q.2.1,q.2.2,p.2)
     |some n=>(xP ks n q.1 f c0).bind λ_=>.ok (n,q.2.1,q.2.2,ks)):=h
    rw[Res.tQ]at h;have nv:=l.st n3 (bS (.tok w r1 c1::Z) (0+1) r2 c2);refine Im (i:=.type) (S.le nv) (h.bd nv λn F e h=>?_);have hj3:dD F j2 (.tok w r1 c1::Z) 1 r2 c2:=e.g (eS N _);refine c6 ?_;induction Z using cL with
    |nil=>exact aaU hj3 pb.nx (af rfl) (L (u:=Y n) (x8:=Y (.ref j2)) p.nx (e.g (sn D nj)) (e.g (sn B nd)) (nv.t e) h)
    |cons x is4=>exact MS (K0:=λ(_:Int) _=>True) hj3 pb.nx (af rfl) (dO.DU h (nv.t e))
 .rw[hq]at h hi;exact bL hi (L (u:=Sa) p I Q le h)
end
def tc(r s d:Nat):MO:=.inst 695 [(dR,.ref s),(fJ,.ref d),(fK,.ref (r+1)),(dg,.ref (r+2)),(iw,.ref (r+3))]
abbrev Ai:=Option (Str×Nat×Nat)
def aeS:Itm->Str×Nat×Nat
 | .br _ r c=>(aq,r,c)
 | .tok w r c=>(cond (eR w.1.sort) eN aq,r,c)
def IG(X:KX)(s:Nat)(a:ct)(ks:List Kd)(G:List MO)(P:Prop):Ai->Prop
 |none=>P
 |some (w,r,c)=>da G s a ks->X 164 (lj w r c) G
abbrev Tt:=Int×List Itm×List Kd×Ai
def nS(a:ct)(ks:List Kd)(t:List Itm):Res Tt:=(Uk a ks t).bind λq=>gn (bw q.2.1 10) (cond (oM q.2.1) (match t with|it::_=>.ok (0,t,q.2.2.2,Y (aeS it))| []=>.stuck) (.ok (q.1,q.2.2.1,q.2.2.2,Sa)))
noncomputable def I0:Itm->Bool | .br (_::_::_) _ _=>W|_=>UA
def pA(acc:List Int)(f P R:Bool):List Itm->Res (List Int×Bool×List Itm)
 | []=>.ok (acc,P,[])
 |it::r=>cond (dQ it == fh) ((sP it).bind λks=>gn (bw (acc++ks) 1000) (pA (acc++ks) UA P W r))
  (cond ((dQ it == ej)&&f) (pA acc UA W R r) (cond ((dQ it == gq)&&bX R) (pA acc UA (P||I0 it) R r) (.ok (acc,P,it::r))))
noncomputable def zu:List Int->Int | [a]=>a|_=>-64
def EG(a:ct)(ks:List Kd)(t:List Itm):Res Tt :=(pA [] W UA UA t).bind λq=>cond (bX q.2.1&&bw q.1 1) (.ok (zu q.1,q.2.2,ks,Sa)) (nS a ks t)
section
variable{K:bp}{X:KX}{H G:List MO}{is:List Itm}{k:Nat}{it:Itm}{t:List Itm}{j r c d s:Nat}{Γ:ct}{ks:List Kd}{q:Kd}
def sO(is:List Itm)(s:Nat)(Γ:ct)(K:bp)(X:KX)(q:Tt)(G:List MO):Prop :=IG X s Γ q.2.2.1 G (∀a,Ps is a q.2.1->da G s Γ q.2.2.1->K (.tup [.int q.1,.int a]) G) q.2.2.2
theorem ae1(h:H[d]?=Y (.bu fs))(f:fits fs=W):jM (.ref d) H=Y (.int fs.length):=by
 unfold jM;have e2:listOf H (.ref d)=Sa:=by show H[d]?.bind mA=_;rw[h];rfl
 rw[e2,xF h];show gd (fits fs) _=_;rw[f];rfl
theorem u7(a:H[r]?=Y (tc r s d))(he:e[i]?=Y (Y (.ref r))):Ev (aw dR [695] [] (Loc i)) e H (.ref s):=cu (af he) (eU a rfl rfl) rfl
theorem afH(S:da H s Γ ks)(h:H[a]?=Y x)(hx:∀C fs,x = .inst C fs->x=x)(b:∀fs,x ≠ .bu fs)(f:∀l,x ≠ .lst l):bx a [s+2,s+3]=UA :=sT (λq=>by refine VF S.many λm e=>?_;rw[q,e]at h;exact b _ (UB h).symm) (λq=>by rw[q,S.kinds]at h;exact f _ (UB h).symm)
theorem v7(S:da H s Γ ks)(h:H[a]?=Y (.inst C fs)):bx a [s+2,s+3]=UA:=afH S h (λ_ _ _=>rfl) (λ_ q=>by cases q) (λ_ q=>by cases q)
theorem Uq(p:Ps is k t)(y:H[r]?=Y (tc r s d))(S:da H s Γ ks)(h:d9 s H (sO is s Γ K X) X (nS Γ ks t)):pM [.ref r,.lst (aP is),.int k] H K X:=by
 unfold pM;refine kM (i6 (dB (u7 y rfl) (cV S.sp rfl) (aj (af rfl) (aj (af rfl) aC)) ?_));refine aix p S (h.vt (fs:=[]) (λF e=>e) λq F e h m w z l i=>?_);refine a9 h.gr λx h=>?_;refine oI (a:=[Y (.ref r),Y (.lst (aP is)),Y (.int k),Y (.int q.1),Y (.ref w),Y (.int m)]) rfl ?_;have f:=ae1 l (c8 (by have:=c7 x;lia));cases hq:q.2.1 with
 |nil =>
  rw[hq]at h f;exact bL (bb (de (af rfl) f) ax rfl) (cy (v:=.tup [.int q.1,.int m]) (by walk_at "e") (h F e m z i))
 |cons a b =>
  rw[hq]at h f;cases t with
  |nil=>exact h.elim
  |cons it A =>
   refine bM (bb (t:=W) (de (af rfl) f) ax (zt (ab8 (ap4.mpr (aoI _))))) (c6 (cG (aj ax (aj (show Ev _ _ _ (aH it) by walk_at "e") aC)) (gU (K0:=λ(_:Int) _=>True) ?_)));cases it with
   |br=>exactλF2 e2=>h F2 (e.t (Le.u e2)) (i.le e2)
   |tok=>exactλF2 e2=>h F2 (e.t (Le.u e2)) (i.le e2)
theorem MI{q:Str}(h:(dQ it == q)=W)(hq:(fj == q)=UA):∃a is r c,it = .br (a::is) r c:=by
 cases it with
 |tok=>rw[show dQ (.tok _ _ _)=fj from rfl,hq]at h;exact bD h
 |br is r c=>exact EJ (t:=[]) (it:=.br is r c) h hq
theorem NU(a b:Nat):((a:Int) == (b:Int))=decide (a=b):=by
 by_cases h:a=b
 .rw[h,ab8 rfl];exact ah6 _
 .rw[ahR h];exact VQ.mpr (by lia)
theorem aft(s:gX (.br (h0::is) r c)=W)(f:Ev a e H (aH (.br (h0::is) r c))):Ev (gv mC (b7 (aw bY [230,355,522] [] a)) (ah 1)) e H (.bool (I0 (.br (h0::is) r c))):=by
 refine Bi (de (cu f vq rfl) (j9 (Ps.of s) H)) ax (zt ?_);cases is with
 |nil=>rfl
 |cons a b=>exact ab8 (by simp only[WB];lia)
inductive U4 (is:List Itm) (t:List Itm) (k r s:Nat) (Γ:ct) (ks:List Kd) (H:List MO) (K:bp) (X:KX) (t1:List Itm) (e:En) (G:List MO):Prop
 |mk (k1:Nat) (acc:List Int) (P R:Bool) (x7:Option O) (he:e=[Y (.ref r),Y (.lst (aP is)),Y (.int k),Y (.int k1),Y (.ref H.length),Y (.bool P),Y (.bool R),x7]) (p1:Ps is k1 t1) (le:Le H G) (hG:G[H.length]?=Y (.lst (iA acc))) (ha:bw acc 1000=W) (hk:k<=k1)
  (h:d9 s H (sO is s Γ K X) X ((pA acc (decide (k1=k)) P R t1).bind λq=>cond (bX q.2.1&&bw q.1 1) (.ok (zu q.1,q.2.2,ks,Sa)) (nS Γ ks t)))
theorem EI(p:Ps is k t)(hr:H[r]?=Y (tc r s d))(S:da H s Γ ks)(h:d9 s H (sO is s Γ K X) X (EG Γ ks t)):vD [.ref r,.lst (aP is),.int k] H K X:=by
 unfold vD;refine kM (i6 ?_);conv=>whnf
 have hn:=iJ H;refine ve (λt=>t.length) (U4 is t k r s Γ ks H K X) ?_ t ?_ ?_
 .intro t1 e G go L z;cases z with
  |mk f acc P R D he A le B ha hk h =>
  subst he;have M:=Qz B ha;have x:∀{D:Option O},d9 s H (sO is s Γ K X) X (cond (bX P&&bw acc 1) (.ok (zu acc,t1,ks,Sa)) (nS Γ ks t))->aro [Y (.ref r),Y (.lst (aP is)),Y (.int k),Y (.int f),Y (.ref H.length),Y (.bool P),Y (.bool R),D] G (d6 K) (λC fs _ H=>X C fs H):=by
   intro D h;have tt:d9 s H (sO is s Γ K X) X (nS Γ ks t)->aV (aM aJ lB [(695,pM)] ai [ay,aB]) [Y (.ref r),Y (.lst (aP is)),Y (.int k),Y (.int f),Y (.ref H.length),Y (.bool P),Y (.bool R),D] G (d6 K) (λC fs _ H=>X C fs H):=λh =>
    u9 (dB (af rfl) (cV (le.g hr) rfl) (aj (af rfl) (aj (af rfl) aC)) (Uq p (le.g hr) (S.le le) (h.sub le)))
   cases P with
   |true=>exact bL (by walk_at "e") (tt h)
   |false =>
    induction acc using cL with
    |nil=>exact bM (eY (by walk_at "e") (eY (bb (de (af rfl) M) ax rfl) (by walk_at "e"))) (mN (v:=.tup [.int (-64),.int f]) (c9 (aj (jz (bb (de (af rfl) M) ax rfl) ax) (aj (af rfl) aC)) rfl) (h G le.u f A (S.le le)))
    |cons a l =>
    induction l using cL with
    |nil=>exact bM (eY (by walk_at "e") (eY (bb (de (af rfl) M) ax rfl) (by walk_at "e"))) (mN (v:=.tup [.int a,.int f]) (c9 (aj (lp (bb (de (af rfl) M) ax rfl) (bB (af rfl) ax (show aN az (.ref H.length) (.int 0) G=Y (.int a) by unfold aN;rw[kU B];rfl))) (aj (af rfl) aC)) rfl) (h G le.u f A (S.le le)))
    |cons b l =>
     have Q:eL (.int ((a::b::l).length:Nat)) (.int 2) G=Y UA:=lH (ahR (by simp only[WB];lia));exact bL (eY (by walk_at "e") (gQ (bb (de (af rfl) M) ax Q))) (tt h)
  cases t1 with
  |nil=>exact(show Ev _ _ G UA by walk_at "e") _ _ (cF rfl (x h))
  |cons it t2 =>
   refine(show Ev _ _ G W by walk_at "e") _ _ (cT rfl ?_);have hx:∀{D:Option O},Ev (ao (aN az) ay aW) [Y (.ref r),Y (.lst (aP is)),Y (.int k),Y (.int f),Y (.ref H.length),Y (.bool P),Y (.bool R),D] G (aH it):=bB (af rfl) (af rfl) (lF A G);refine dz (oa A.sm hx) ?_;have h:d9 s H (sO is s Γ K X) X ((cond (dQ it == fh) ((sP it).bind λks=>gn (bw (acc++ks) 1000) (pA (acc++ks) UA P W t2))
    (cond ((dQ it == ej)&&decide (f=k)) (pA acc UA W R t2) (cond ((dQ it == gq)&&bX R) (pA acc UA (P||I0 it) R t2) (.ok (acc,P,it::t2))))).bind λq=>cond (bX q.2.1&&bw q.1 1) (.ok (zu q.1,q.2.2,ks,Sa)) (nS Γ ks t)):=h
   have nk:decide (f+1=k)=UA:=ahR (by lia);refine bc (b:=dQ it == fh) (λhq=>?_) λhq=>?_
   .rw[hq]at h;simp only[cond_true,Res.tQ,Res.yz]at h;refine bM (by walk_at "e") (fW (c6 (hO (af rfl) (hZ B) yt ?_)));show aA uc _ _ _ _ _;refine cG (aj hx aC) (Qv A.sm (h.bd le λT F e h=>?_));refine a9 h.gr λhb h=>?_;refine oI (xH (e.g B) rfl (by rw[←nh];exact pQ hb)) (dz ax ?_);refine(show Ev (ao aX aW (ah 1)) _ _ (O.int (f+1:Nat)) from bB (af rfl) ax rfl) _ _ ?_;refine L t2 _ _ (af5 _) ⟨f+1,acc++T,P,W,_,rfl,A.nx,(le.t e).st hn _,?_,hb,by lia,by rw[nk];exact h⟩;rw[eS (e.g B),nh]
   .rw[hq]at h;refine zL (by walk_at "e") ?_;have y:=NU f k;have E:∀{P':Bool}{m:EM O},Ev m [Y (.ref r),Y (.lst (aP is)),Y (.int k),Y (.int f),Y (.ref H.length),Y (.bool P),Y (.bool R),Y (.str (dQ it))] G (.bool P')->d9 s H (sO is s Γ K X) X ((pA acc UA P' R t2).bind λq=>cond (bX q.2.1&&bw q.1 1) (.ok (zu q.1,q.2.2,ks,Sa)) (nS Γ ks t))->∀{Kf:KF}{Xf:KE},ak (bA 5 m) asl [Y (.ref r),Y (.lst (aP is)),Y (.int k),Y (.int f),Y (.ref H.length),Y (.bool P),Y (.bool R),Y (.str (dQ it))] G (mz go Kf) Xf:=λhm h _ _=>dz hm ((show Ev (ao aX aW (ah 1)) _ _ (O.int (f+1:Nat)) from bB (af rfl) ax rfl) _ _ (L t2 _ _ (af5 _) ⟨f+1,acc,_,R,_,rfl,A.nx,le,B,ha,by lia,by rw[nk];exact h⟩));refine bc (b:=dQ it == ej) (λw=>?_) λw=>?_
    .refine bc (b:=decide (f=k)) (λI=>?_) λI=>?_
     .rw[w,I]at h;rw[I]at y;refine bM (tX (eY (by walk_at "e") (eY (bb (af rfl) (af rfl) (nD y)) (by walk_at "e")))) (E ?_ h);cases P with
      |true=>exact Bj (af rfl)
      |false=>exact xZ (af rfl) (Bj (by walk_at "e"))
     .rw[w,I]at h;rw[I]at y;have i:(dQ it == gq)=UA:=by rw[eq_of_beq w];rfl
      rw[i]at h;exact zL (kH (eY (by walk_at "e") (gQ (bb (af rfl) (af rfl) (nD y)))) (kH (gQ (by walk_at "e")) (by walk_at "e"))) (show ak xi _ _ _ _ _ from x h)
    .rw[w]at h;refine bc (b:=dQ it == gq) (λi=>?_) λi=>?_
     .rw[i]at h;have Z:=A.sm;refine De (MI i rfl) λh0 is2 r2 c2 N=>?_;subst N;cases R with
      |true=>exact zL (kH (gQ (by walk_at "e")) (kH (eY (by walk_at "e") (gQ (mX (fP (af rfl) rfl) rfl))) (by walk_at "e"))) (show ak xi _ _ _ _ _ from x h)
      |false =>
       refine bM (kH (gQ (by walk_at "e")) (tX (eY (by walk_at "e") (eY (mX (fP (af rfl) rfl) rfl) (by walk_at "e"))))) (E ?_ h);cases P with
       |true=>exact Bj (af rfl)
       |false=>exact xZ (af rfl) (xZ (by walk_at "e") (aft Z hx))
     .rw[i]at h;exact zL (kH (gQ (by walk_at "e")) (kH (gQ (by walk_at "e")) (by walk_at "e"))) (show ak xi _ _ _ _ _ from x h)
 .have:=p.len;have:=p.s;show t.length < 3000;lia
 .exact⟨k,[],UA,UA,Sa,rfl,p,Le.n H _,ef H _,rfl,VJ _,by rw[ab8 rfl];exact h⟩
end
structure dN where
 name:Str
 word:Str
 tok:Itm
 pI:Bool
def fT(l:dN):MO:=.inst 501 [(kP,.str l.name),(gF,.str l.word),(fG,aH l.tok),(p4,.bool l.pI)]
def gL(H:List MO):List Nat->List dN->Prop
 | [],[]=>True
 |i::b,l::a=>H[i]?=Y (fT l)/\gL H b a
 |_,_=>False
noncomputable def refs(l:List Nat):List O:=l.map .ref
structure Rx (H:List MO) (r s d:Nat) (Γ:ct) (L:List (Str×Int)) (ks:List Kd) (ls:List Nat) (a8:List dN):Prop where
 rd:H[r]?=Y (tc r s d)
 sp:da H s Γ ks
 lo:H[d]?=Y (.bu (dA L))
 lb:H[r+2]?=Y (.lst (refs ls).reverse)
 la:gL H ls a8
 le:bw ls 1000=W
 dd:s+10 < d
 rr:s+10 < r
section
variable{K:bp}{X:KX}{H G:List MO}{is:List Itm}{k:Nat}{it:Itm}{t:List Itm}{j r c d s:Nat}{Γ:ct}{L:List (Str×Int)}{ks ks':List Kd}{q:Kd}{ls:List Nat}{a8:List dN}
theorem gL.up(u:Up ps H G):∀{ls:List Nat}{a8:List dN},gL H ls a8->(∀i l,H[i]?=Y (fT l)->bx i ps=UA)->gL G ls a8
 | [],[],_,_=>trivial
 |i::ls,l::a8,h,n=>⟨u _ _ h.1 (n _ _ h.1),gL.up u h.2 n⟩
 | [],_::_,h,_=>h.elim
 |_::_,[],h,_=>h.elim
theorem Rx.nu(h:Rx H r s d Γ L ks ls a8)(u:Le H G):Rx G r s d Γ L ks ls a8:=⟨u.g h.rd,h.sp.le u,u.g h.lo,u.g h.lb,h.la.up u λ_ _ _=>rfl,h.le,h.dd,h.rr⟩
theorem Rx.up(h:Rx H r s d Γ L ks ls a8)(u:Up [s+2,s+3] H G)(S:da G s Γ ks'):Rx G r s d Γ L ks' ls a8 :=
 have a:=h.dd;have b:=h.rr
 ⟨u _ _ h.rd (v7 h.sp h.rd),S,u _ _ h.lo (sT (by omega) (by omega)),u _ _ h.lb (sT (by omega) (by omega)),h.la.up u λi l e=>v7 h.sp e,h.le,a,b⟩
def y6(Γ:ct)(i:jw)(tk:Itm)(t:List Itm):Res (Int×List Itm):=(lD tk t).bind λ_=>match t with
 | .tok w r c::a=>(wY Γ i w.1 r c).bind λv=>.ok (v,a)
 |_=>.stuck
def kIx(is:List Itm)(K:bp)(p:Int×List Itm)(G:List MO):Prop:=∀a,Ps is a p.2->K (.tup [.int p.1,.int a]) G
theorem adY(h:lD tk t = .ok v):∃w r c e,t = .tok w r c::e/\v = .tok w r c:=by
 cases t with
 |nil=>cases tk<;>cases h
 |cons a b=>cases a with
  |br is r c=>cases h
  |tok w r c =>
   have h:cond (xI w.1.sort) (Res.ok (Itm.tok w r c)) (odd (.tok w r c))= .ok v:=h;cases q:xI w.1.sort with
   |true=>rw[q]at h;cases h;exact⟨w,r,c,b,rfl,rfl⟩
   |false=>rw[q]at h;cases h
theorem PO{l:Type}{f:Itm->Res l}{K0:l->List MO->Prop}{i:Itm->List MO->Prop}(h:dO ps es H K0 X ((lD tk t).bind f))(le:Up es H G)(k:∀w r c b F,t = .tok w r c::b->Le G F->dO ps es H K0 X (f (.tok w r c))->i (.tok w r c) F):Out G i X (lD tk t):=by
 cases q:lD tk t with
 |stuck=>rw[q]at h;exact h
 |bad w r c=>rw[q]at h;exactλF e=>h F (le.t (Le.u e))
 |left w r=>rw[q]at h;exactλF e=>h F (le.t (Le.u e))
 |ok v =>
  rw[q]at h;refine zy (adY q) λw r c b e1 a=>?_;subst a
  exactλF e=>k w r c b F e1 e h
theorem aaa{K:List O->List MO->Prop}(he:e[i]?=Y (Y v))(h:m e H (λy G=>K [v,y] G) X):Args [Loc i,m] e H K X:=by
 conv=>whnf
 exact oI (a:=v) (by rw[he];rfl) h
theorem Fy{t:Tg}{b:SM}{K:KF}{X:KE}{v:O}{l:List O}{e e':En}(he:zP t v e=Y e')(h:b e' H (mz (forL t b K X l) K) X):forL t b K X (v::l) e H:=oI he h
theorem PZ{i:jw}(p:Ps is k t)(R:Rx H r s d Γ L ks ls a8)(h:Out H (kIx is K) X (y6 Γ i tk t)):mY [.ref r,.str i.q,aH tk,.lst (aP is),.int k] H K X:=by
 unfold mY;refine adp (DD (ER (u7 R.rd rfl) (cV R.sp.sp rfl) ?_));refine aaa rfl ?_;refine cG (aj (af rfl) (aj (af rfl) (aj (af rfl) aC))) (yY p (PO h Up.r λw f b l F a e h=>?_));subst a;refine Im (R.sp.le e) (h.bd e λv F2 e2 h=>?_);exact jX (xs:=[.int (k+1:Nat)]) (aj (bB (af rfl) ax rfl) aC) (bI rfl (h F2 (e.t e2) (k+1) p.nx))
def we(L:List (Str×Int))(w:OW)(r c:Nat):Res Int:=cond (eI w.1.sort) (DV w.1 r c) (match look w.1.txt L with|some v=>.ok v|none=>iK (JE++w.1.txt) (.tok w r c))
theorem K8{z:Str}{w:OW}(a:bw z.cps.toList 100=W):aX (.str z) (.str w.1.txt) H=Y (.str (z++w.1.txt)):=by
 show alt Sa (alt (gd (fits (z.cps.toList++w.1.txt.cps.toList)) (Y (O.str (z++w.1.txt)))) _)=_;have:fits (z.cps.toList++w.1.txt.cps.toList)=W:=c8 (by
  rw[VK];have h1:=c7 w.2.len;have h2:=c7 a
  omega)
 rw[this];rfl
theorem ae5(R:Rx H r s d Γ L ks ls a8)(h:Out H (λv=>K (.int v)) X (we L w r1 c1)):Br [.ref r,aH (.tok w r1 c1)] H K X:=by
 unfold Br;refine fun2 ?_;unfold we at h;refine bc (b:=eI w.1.sort) (λl=>?_) λl=>?_
 .rw[l]at h;exact bM (by walk_at "e") (qy (cG (aj (af rfl) aC) (J0 h)))
 .rw[l]at h;have h:Out H (λv=>K (.int v)) X (match look w.1.txt L with|some v=>.ok v|none=>iK (JE++w.1.txt) (.tok w r1 c1)):=h;refine bL (by walk_at "e") ?_;have f:Ev (aw fJ [695] [] ai) (Y (O.ref r)::Y (aH (.tok w r1 c1))::dS 0) H (.ref d):=cu (af rfl) (eU R.rd rfl rfl) rfl;have e:Ev (aw b9 [202] [] ay) (Y (O.ref r)::Y (aH (.tok w r1 c1))::dS 0) H (.str w.1.txt):=by walk_at "e"
  have a:=Q2 (q:=w.1.txt) R.lo;rw[CU]at a;cases i:look w.1.txt L with
  |none =>
   rw[i]at h a;exact bM (bb e f a) (c6 (cG (aj (bB ax e (K8 rfl)) (aj (af rfl) aC)) (gU h)))
  |some v =>
   rw[i]at h a;exact bL (bb e f a) (cy (v:=.int v) (bB f e (Ik R.lo (by rw[CU,i];rfl))) (h H Up.r))
noncomputable def oE(z:Str):List dN->Option Nat
 | []=>Sa
 |l::r=>cond (l.name == z) (Y 0) ((oE z r).map λn=>n+1)
def sQ(a8:List dN)(w:OW)(r c:Nat):Res Int:=cond (eI w.1.sort) (DV w.1 r c) (match oE w.1.txt a8 with|some v=>.ok v|none=>iK (zE++w.1.txt) (.tok w r c))
theorem zH(l:List Nat):(refs l).length=l.length:=VO ..
theorem zc(R:Rx H r s d Γ L ks ls a8):jM (.ref (r+2)) H=Y (.int ls.length):=by
 have:=c7 R.le;rw[ny R.lb (c8 (by rw[aeG,zH];omega)),aeG,zH]
theorem ad3(R:Rx H r s d Γ L ks ls a8){i n:Nat}(hi:ls[n]?=Y i):aN az (.ref (r+2)) (.int ((ls.length:Int) - 1 - n)) H=Y (.ref i):=by
 have lt:n < ls.length:=(WC.mp hi).1;have a:((ls.length:Int) - 1 - n)=((ls.length - 1 - n:Nat):Int):=by omega
 rw[a];refine Qr R.lb ?_ (aeF (VR (ap5 _ _) (ap5 _ _)) (aeF (c7 R.le) (by decide)));rw[List.getElem?_reverse (by rw[zH];exact aeF (ap5 _ _) (Nat.sub_lt (Nat.zero_lt_of_lt lt) aqQ)),zH,Nat.sub_sub_self (Nat.le_sub_one_of_lt lt)];unfold refs;rw[aeQ,hi];rfl
theorem ahc{n:Nat}(h:n < 60000):qw (.int n)=Y (upTo n 0):=by
 unfold qw aI;have e1:decide (0<=(n:Int))=W:=ab8 (alW n);have e2:decide ((n:Int)< 60000)=W:=ab8 (akq.mpr h);rw[ans,e1,e2];rfl
theorem Qy{w:OW}{p f:Nat}(R:Rx H r s d Γ L ks ls a8)(h:Out H (λv=>K (.int v)) X (sQ a8 w p f)):vF [.ref r,aH (.tok w p f)] H K X:=by
 unfold vF;refine fun2 ?_;unfold sQ at h;refine bc (b:=eI w.1.sort) (λB=>?_) λB=>?_
 .rw[B]at h;exact bM (by walk_at "e") (qy (cG (aj (af rfl) aC) (J0 h)))
 .rw[B]at h;have h:Out H (λv=>K (.int v)) X (match oE w.1.txt a8 with|some v=>.ok v|none=>iK (zE++w.1.txt) (.tok w p f)):=h;refine bL (by walk_at "e") ?_;have D:∀{e:En},e[0]?=Y (Y (.ref r))->Ev (aw dg [695] [] ai) e H (.ref (r+2)):=λhe=>cu (af he) (eU R.rd rfl rfl) rfl;show xo _ _ _ _ _ _ _;refine cast Oh.symm ((show Ev ash _ H (.int ls.length) from de (D rfl) (zc R)) _ _ ?_);have I:qw (.int ls.length)=Y (upTo ls.length 0):=ahc (by have:=c7 R.le;omega);rw[I];have A:∀(a:List Nat) (labs':List dN) (n:Nat) (x:Option O),ls.drop n=a->gL H a labs' ->
    Out H (λv=>K (.int v)) X (match (oE w.1.txt labs').map λm=>n+m with|some v=>.ok v|none=>iK (zE++w.1.txt) (.tok w p f)) ->
    forL (.nm 2) (aY arj (aV aB) bh)
     (lJ ar3 (d6 K) λC fs _ H=>X C fs H) (λC fs _ H=>X C fs H) (upTo a.length n) [Y (.ref r),Y (aH (.tok w p f)),x] H:=by
   intro a;induction a with
   |nil =>
    intro labs' n x z y h;cases labs' with
    |cons=>exact y.elim
    |nil=>exact c6 (C:=bh) (K:=d6 K) (cG (aj (bB ax (by walk_at "e") (K8 (w:=w) rfl)) (aj (af rfl) aC)) (gU (K0:=λv=>K (.int v)) h))
   |cons i a M =>
    intro labs' n x z y h;cases labs' with
    |nil=>exact y.elim
    |cons l labs' =>
     have hi:ls[n]?=Y i:=by rw[←alg,z];rfl
     rw[show upTo (i::a).length n = .int n::upTo a.length ((n+1:Nat):Int) from rfl];refine Fy (e':=[Y (.ref r),Y (aH (.tok w p f)),Y (.int n)]) rfl ?_;have E:∀{b:Bool},(l.name == w.1.txt)=b->Ev arj [Y (.ref r),Y (aH (.tok w p f)),Y (.int n)] H b:=λhb =>
      bb (cu (bB (D rfl) (bB (bB (de (D rfl) (zc R)) ax rfl) (af rfl) rfl) (ad3 R hi)) (eU y.1 rfl rfl) rfl) (by walk_at "e") (sV hb)
     refine bc (b:=l.name == w.1.txt) (λhb=>?_) λhb=>?_
     .have e:oE w.1.txt (l::labs')=Y 0:=by show cond _ _ _=_;rw[hb];rfl
      rw[e]at h;exact lC (E hb) (cy (v:=.int n) (af rfl) (h H Up.r))
     .have e:oE w.1.txt (l::labs')=(oE w.1.txt labs').map λm=>m+1:=by show cond _ _ _=_;rw[hb];rfl
      rw[e,aqc]at h;refine jH (E hb) (M labs' (n+1) _ (by rw[akF,z];rfl) y.2 ?_);have e2:(λm=>n+1+m)=(λm=>n+m)∘λm=>m+1:=by funext m;show n+1+m=n+(m+1);omega
      rw[e2];exact h
  refine(show oP (Y (upTo ls.length ((0:Nat):Int))) _ from oI rfl (A ls a8 0 Sa rfl R.la ?_));have e:(oE w.1.txt a8).map (λm=>0+m)=oE w.1.txt a8:=by
   cases oE w.1.txt a8 with|none=>rfl|some m=>exact congrArg Y (akE m)
  rw[e];exact h
end
theorem acW(f:Fm):(f.v == mZ)=VH f.n 5:=q5 f _ 5 (by kernel_rfl!)
theorem acY(f:Fm):(f.v == fR)=VH f.n 7:=q5 f _ 7 (by kernel_rfl!)
theorem acX(f:Fm):(f.v == dg)=VH f.n 3:=q5 f _ 3 (by kernel_rfl!)
def uR(a:List dN)(b:Bool)(acc:List Int):List Itm->Res (List Int×List Itm)
 | []=>.ok (acc,[])
 | .tok u r c::t=>cond (b&&xI u.1.sort) ((sQ a u r c).bind λv=>gn (bw (acc++[v]) 900) (uR a b (acc++[v]) t)) (.ok (acc,.tok u r c::t))
 | .br is r c::t=>.ok (acc,.br is r c::t)
abbrev Ti:=List Int×List Itm×List Kd×Ai
def CE(e:ct)(L:List (Str×Int))(a:List dN)(ks:List Kd)(w:Wd)(tk:Itm)(t:List Itm):Res Ti :=
 cond (VH w.aZ.n 5) ((cond (fL t) (y6 e .table tk t) (.ok (0,t))).bind λp=>(nS e ks p.2).bind λq=>.ok ([(oN w.code:Int),q.1,p.1],q.2.1,q.2.2.1,q.2.2.2))
  ((lD tk t).bind λ_=>match t with
   | .tok u r c::b=>cond (VH w.aZ.n 7) ((we L u r c).bind λv=>.ok ([(oN w.code:Int),v],b,ks,Sa)) ((sQ a u r c).bind λv=>(uR a (VH w.aZ.n 3) [v] b).bind λp=>.ok ((oN w.code:Int)::p.1,p.2,ks,Sa))
   |_=>.stuck)
section
variable{K:bp}{X:KX}{H G:List MO}{is:List Itm}{k:Nat}{it:Itm}{t:List Itm}{j r c d s:Nat}{Γ:ct}{L:List (Str×Int)}{ks ks':List Kd}{q:Kd}{ls:List Nat}{a8:List dN}
def j7(is:List Itm)(s:Nat)(Γ:ct)(K:bp)(X:KX)(p:Ti)(G:List MO):Prop:=IG X s Γ p.2.2.1 G (∀a,Ps is a p.2.1->da G s Γ p.2.2.1->K (.tup [.tup (iA p.1),.int a]) G) p.2.2.2
theorem aaP(h:m e H (λv G=>K (.ref G.length) (G++[.lst [v]])) X):gj [m] e H K X:=h
theorem aaR(p:Ps is k t)(R:Rx H r s d Γ L ks ls a8)(he:e[0]?=Y (Y (.ref r)))(hi:e[i]?=Y (Y (.lst (aP is))))(a:e[j']?=Y (Y (.int k)))(h:d9 s H (sO is s Γ K X) X (nS Γ ks t)):aM aJ lB [(695,pM)] ai [Loc i,Loc j'] e H K X :=dB (af he) (cV R.rd rfl) (aj (af hi) (aj (af a) aC)) (Uq p R.rd R.sp h)
inductive We (is:List Itm) (r k0 s:Nat) (w:OW) (tk:Itm) (u:OW) (r1 c1:Nat) (a8:List dN) (Γ:ct) (ks:List Kd) (H:List MO) (K:bp) (X:KX) (t1:List Itm) (e:En) (G:List MO):Prop
 |mk (k1:Nat) (acc:List Int) (he:e=[Y (.ref r),Y (.int (oN w.1.code)),Y (.str w.1.aZ.v),Y (aH tk),Y (.lst (aP is)),Y (.int k1),Sa,Sa,Y (aH (.tok u r1 c1)),Y (.ref k0)]) (p1:Ps is k1 t1) (le:Le H G) (hG:G[k0]?=Y (.lst (iA acc))) (ha:bw acc 900=W)
  (h:d9 s H (j7 is s Γ K X) X ((uR a8 (VH w.1.aZ.n 3) acc t1).bind λp=>.ok ((oN w.1.code:Int)::p.1,p.2,ks,Sa)))
theorem aee{w:OW}{tk:Itm}(p:Ps is k t)(R:Rx H r s d Γ L ks ls a8)(h:d9 s H (j7 is s Γ K X) X (CE Γ L a8 ks w.1 tk t)):Bq [.ref r,.int (oN w.1.code),.str w.1.aZ.v,aH tk,.lst (aP is),.int k] H K X:=by
 unfold Bq;have R0:=R;refine B5 ?_;have h5:=acW w.1.aZ;unfold CE at h;refine bc (b:=VH w.1.aZ.n 5) (λhb=>?_) λhb=>?_
 .rw[hb]at h h5;have h:d9 s H (j7 is s Γ K X) X ((cond (fL t) (y6 Γ .table tk t) (.ok (0,t))).bind λp=>(nS Γ ks p.2).bind λq=>.ok ([(oN w.1.code:Int),q.1,p.1],q.2.1,q.2.2.1,q.2.2.2)):=h;refine bM (by walk_at "e") (fW (dz ax (fW ?_)));have E:∀{k':Nat}{f:List Itm}{n:Int}{G:List MO},Ps is k' f->Le H G->d9 s H (j7 is s Γ K X) X ((nS Γ ks f).bind λq=>.ok ([(oN w.1.code:Int),q.1,n],q.2.1,q.2.2.1,q.2.2.2))->∀{C:SM},
    ak (ak ase (aV (au [au [ay,eV,bZ],bz]))) C [Y (.ref r),Y (.int (oN w.1.code)),Y (.str w.1.aZ.v),Y (aH tk),Y (.lst (aP is)),Y (.int k'),Y (.int n),Sa,Sa,Sa] G (d6 K) (λC fs _ H=>X C fs H):=by
   intro k' f n G p le h C;refine fW (i6 (aaR p (R.nu le) rfl rfl rfl (h.vt (fs:=[]) (λF e=>le.t e) λq F e h=>?_)));obtain⟨qn,qt,qk,ql⟩:=q;cases ql with
   |some l=>exact h F (le.u.t e)
   |none =>
   intro S p2 S2;refine oI (a:=[Y (.ref r),Y (.int (oN w.1.code)),Y (.str w.1.aZ.v),Y (aH tk),Y (.lst (aP is)),Y (.int S),Y (.int n),Y (.int qn),Sa,Sa]) rfl ?_;exact mN (v:=.tup [.tup (iA [(oN w.1.code:Int),qn,n]),.int S]) (by walk_at "e") (h F (le.u.t e) S p2 S2)
  have hx:=CN (H:=H) p (af rfl) (af rfl) (e:=[Y (.ref r),Y (.int (oN w.1.code)),Y (.str w.1.aZ.v),Y (aH tk),Y (.lst (aP is)),Y (.int k),Y (.int 0),Sa,Sa,Sa]) (a:=Loc 4) (b:=Loc 5);refine bc (b:=fL t) (λhi=>?_) λhi=>?_
  .rw[hi]at h hx;refine bM (fP hx rfl) (i6 (dB (af rfl) (cV R.rd rfl) (aj ax (aj (af rfl) (aj (af rfl) (aj (af rfl) aC)))) ?_));refine PZ (i:=.table) p R (h.bd Up.r λv F e h S p2=>?_);exact oI (a:=[Y (.ref r),Y (.int (oN w.1.code)),Y (.str w.1.aZ.v),Y (aH tk),Y (.lst (aP is)),Y (.int S),Y (.int v.1),Sa,Sa,Sa]) rfl (E p2 e h)
  .rw[hi]at h hx;exact bL (fP hx rfl) (E p Up.r h)
 .rw[hb]at h h5;have h:d9 s H (j7 is s Γ K X) X ((lD tk t).bind λ_=>match (generalizing:=false) t with
   | .tok u r c::f=>cond (VH w.1.aZ.n 7) ((we L u r c).bind λv=>.ok ([(oN w.1.code:Int),v],f,ks,Sa)) ((sQ a8 u r c).bind λv=>(uR a8 (VH w.1.aZ.n 3) [v] f).bind λp=>.ok ((oN w.1.code:Int)::p.1,p.2,ks,Sa))
   |_=>.stuck):=h
  refine bL (by walk_at "e") (fo (cG (aj (af rfl) (aj (af rfl) (aj (af rfl) aC))) (yY p (PO h Up.r λu x m f F et e h=>?_))));subst et;have R:=R.nu e;have h7:=acY w.1.aZ;refine bc (b:=VH w.1.aZ.n 7) (λQ=>?_) λQ=>?_
  .rw[Q]at h7;have h:d9 s H (j7 is s Γ K X) X (cond (VH w.1.aZ.n 7) ((we L u x m).bind λv=>.ok ([(oN w.1.code:Int),v],f,ks,Sa)) ((sQ a8 u x m).bind λv=>(uR a8 (VH w.1.aZ.n 3) [v] f).bind λp=>.ok ((oN w.1.code:Int)::p.1,p.2,ks,Sa))):=h;rw[Q]at h;refine bM (by walk_at "e") (zM (JF rfl (dB (af rfl) (cV R.rd rfl) (aj (af rfl) aC) (ae5 R (h.bd e λv F2 e2 h=>?_)))));exact(show Ev (ao aX bz (ah 1)) _ F2 (O.int (k+1:Nat)) from bB (af rfl) ax rfl) _ _ (h F2 (e.u.t (Le.u e2)) (k+1) p.nx (R.sp.le e2))
  .rw[Q]at h7;have h:d9 s H (j7 is s Γ K X) X (cond (VH w.1.aZ.n 7) ((we L u x m).bind λv=>.ok ([(oN w.1.code:Int),v],f,ks,Sa)) ((sQ a8 u x m).bind λv=>(uR a8 (VH w.1.aZ.n 3) [v] f).bind λp=>.ok ((oN w.1.code:Int)::p.1,p.2,ks,Sa))):=h;rw[Q]at h;refine bL (by walk_at "e") (fo (aaP (dB (af rfl) (cV R.rd rfl) (aj (af rfl) aC) (Qy R (h.bd e λv F2 e2 h=>?_)))));have R:=R.nu e2;have le:Le H F2:=e.t e2;have R:=R.nu (Le.n F2 (.lst [.int v]));have hk:=ef F2 (.lst [.int v]);have hn:=le.no;have le:=le.t (Le.n F2 (.lst [.int v]));generalize F2.length=B at hk hn ⊢;generalize F2++[.lst [.int v]]=F3 at hk R le ⊢;refine dz (v:=.int (k+1:Nat)) (bB (af rfl) ax rfl) ?_;have h3:=acX w.1.aZ;refine ve (λt=>t.length) (We is r B s w tk u x m a8 Γ ks H K X) ?_ f ?_ ?_
   .intro T e G go hgo z;cases z with
    |mk D acc he p1 le hG ha h =>
    subst he;have R:=R0.nu le;have E:d9 s H (j7 is s Γ K X) X (.ok ((oN w.1.code:Int)::acc,T,ks,Sa))->ary [Y (.ref r),Y (.int (oN w.1.code)),Y (.str w.1.aZ.v),Y (aH tk),Y (.lst (aP is)),Y (.int D),Sa,Sa,Y (aH (.tok u x m)),Y (.ref B)] G (d6 K) (λC fs _ H=>X C fs H):=λh=>by
     have N:bw acc 1000=W:=c8 (by have:=c7 ha;lia);have ea:=add_l (xs:=[.int (oN w.1.code)]) (y:=.ref B) (kU hG) (BW N _);exact DJ (l:=(oN w.1.code:Int)::acc) (ya (bB (show Ev (ar [ay]) _ G (.lst [.int (oN w.1.code)]) fromλK X k=>k) (af rfl) ea) rfl (BW N _)) (af rfl) (h G le.u D p1 R.sp)
    have hx:=CN (H:=G) p1 (af rfl) (af rfl) (e:=[Y (.ref r),Y (.int (oN w.1.code)),Y (.str w.1.aZ.v),Y (aH tk),Y (.lst (aP is)),Y (.int D),Sa,Sa,Y (aH (.tok u x m)),Y (.ref B)]) (a:=Loc 4) (b:=Loc 5);have A:∀{b:Bool},b=UA->(b=(VH w.1.aZ.n 3&&fL T))->d9 s H (j7 is s Γ K X) X (.ok ((oN w.1.code:Int)::acc,T,ks,Sa))->arF [Y (.ref r),Y (.int (oN w.1.code)),Y (.str w.1.aZ.v),Y (aH tk),Y (.lst (aP is)),Y (.int D),Sa,Sa,Y (aH (.tok u x m)),Y (.ref B)] G (λg H=>cP g ((ak arL asb) [Y (.ref r),Y (.int (oN w.1.code)),Y (.str w.1.aZ.v),Y (aH tk),Y (.lst (aP is)),Y (.int D),Sa,Sa,Y (aH (.tok u x m)),Y (.ref B)] H (mz go (lJ ary (d6 K) λC fs _ H=>X C fs H)) λC fs _ H=>X C fs H) (lJ ary (d6 K) (λC fs _ H=>X C fs H) .next [Y (.ref r),Y (.int (oN w.1.code)),Y (.str w.1.aZ.v),Y (aH tk),Y (.lst (aP is)),Y (.int D),Sa,Sa,Y (aH (.tok u x m)),Y (.ref B)] H)) (xE (λC fs _ H=>X C fs H) [Y (.ref r),Y (.int (oN w.1.code)),Y (.str w.1.aZ.v),Y (aH tk),Y (.lst (aP is)),Y (.int D),Sa,Sa,Y (aH (.tok u x m)),Y (.ref B)]):=λhb0 hb h=>by
     subst hb0;have hc:Ev arF [Y (.ref r),Y (.int (oN w.1.code)),Y (.str w.1.aZ.v),Y (aH tk),Y (.lst (aP is)),Y (.int D),Sa,Sa,Y (aH (.tok u x m)),Y (.ref B)] G UA:=by
      cases M:VH w.1.aZ.n 3 with
      |false=>rw[M]at h3;exact gQ (by walk_at "e")
      |true =>
       rw[M]at h3 hb;have hb:fL T=UA:=hb.symm;rw[hb]at hx;exact eY (by walk_at "e") (gQ (fP hx rfl))
     exact hc _ _ (cF rfl (E h))
    cases T with
    |nil=>exact A rfl (by cases VH w.1.aZ.n 3<;>rfl) h
    |cons it t2=>cases it with
     |br is2 r2 Z=>exact A rfl (by show UA=(VH w.1.aZ.n 3&&UA);cases VH w.1.aZ.n 3<;>rfl) h
     |tok I r2 Z =>
      have h:d9 s H (j7 is s Γ K X) X ((cond (VH w.1.aZ.n 3&&xI I.1.sort) ((sQ a8 I r2 Z).bind λv=>gn (bw (acc++[v]) 900) (uR a8 (VH w.1.aZ.n 3) (acc++[v]) t2)) (.ok (acc,.tok I r2 Z::t2))).bind λp=>.ok ((oN w.1.code:Int)::p.1,p.2,ks,Sa)):=h;refine bc (b:=VH w.1.aZ.n 3&&xI I.1.sort) (λhb=>?_) λhb=>?_
      .rw[hb]at h;simp only[cond_true,Res.tQ,Res.yz]at h;rw[VG]at hb;rw[hb.1]at h3;have hx:Ev _ _ _ (O.bool (xI I.1.sort)):=hx;rw[hb.2]at hx;refine(show Ev _ _ G W from eY (by walk_at "e") (eY (fP hx rfl) (by walk_at "e"))) _ _ (cT rfl (c6 (hO (af rfl) (hZ hG) kL ?_)));show aM _ _ _ _ _ _ _ _ _;refine dB (af rfl) (cV R.rd rfl) (aj (show Ev _ _ _ (aH (.tok I r2 Z)) by walk_at "e") aC) (Qy R (h.bd le λv F e h=>?_));refine a9 h.gr λhg h=>?_;refine oI (lQ (e.g hG) (pQ (c8 (by have:=c7 ha;lia)))) ?_;refine(show Ev (ao aX bz (ah 1)) _ _ (O.int (D+1:Nat)) from bB (af rfl) ax rfl) _ _ ?_;have nv:Le H (F.set B (.lst (iA acc++[.int v]))):=(le.t e).st hn _;refine hgo t2 _ _ (af5 _) ⟨D+1,acc++[v],rfl,p1.nx,nv,?_,hg,h⟩;rw[eS (e.g hG),nh];rfl
      .rw[hb]at h;exact A rfl hb.symm h
   .have:=p.nx.len;have:=p.s;show f.length < 3000;lia
   .exact⟨k+1,[v],rfl,p.nx,le,hk,rfl,h⟩
end
theorem ac2(f:Fm):(f.v == dh)=VH f.n 9:=q5 f _ 9 (by kernel_rfl!)
theorem ac3(f:Fm):(f.v == oj)=VH f.n 19:=q5 f _ 19 (by kernel_rfl!)
def iy:Nat->List Itm->List Itm
 |0,_=>[]
 |_+1,[]=>[]
 |n+1,it::r=>cond (fL (it::r)) (it::iy n r) []
noncomputable def vc(a:ct)(i:jw):Itm->Res Int | .tok w r c=>wY a i w.1 r c | .br ..=>.stuck
def zT(b:ct)(acc:List Int):List Itm->Res (List Int)
 | []=>.ok acc
 |a::r=>(vc b .table a).bind λv=>zT b (acc++[v]) r
def ot3(f:ct)(w:Wd)(tk:Itm)(t:List Itm):List Itm->Res (List Int×List Itm)
 | []=>(lD tk t).bind λ_=>.stuck
 | [a]=>(vc f .elem a).bind λe=>.ok ([(oN w.code:Int),e,0],t.drop 1)
 |a::b::_=>(vc f .table a).bind λx=>(vc f .elem b).bind λe=>.ok ([(oN w.code:Int),e,x],t.drop 2)
def ot2(e:ct)(w:Wd)(t:List Itm):List Itm->Res (List Int×List Itm)
 | []=>.ok ([(oN w.code:Int),0,0],t)
 | [a]=>odd a
 |a::b::_=>(zT e [] [a,b]).bind λvs=>gn (bw ((oN w.code:Int)::vs) 1000) (.ok ((oN w.code:Int)::vs,t.drop 2))
def ot1(b:ct)(w:Wd)(t:List Itm):List Itm->Res (List Int×List Itm)
 | []=>.ok ([(oN w.code:Int),0],t)
 |a::_=>(vc b .table a).bind λx=>.ok ([(oN w.code:Int),x],t.drop 1)
def C8(a:ct)(w:Wd)(tk:Itm)(t:List Itm):Res (List Int×List Itm) :=cond (VH w.aZ.n 9) (ot1 a w t (iy 2 t)) (cond (VH w.aZ.n 19) (ot2 a w t (iy 2 t)) (ot3 a w tk t (iy 2 t)))
section
variable{K:bp}{X:KX}{H G:List MO}{is:List Itm}{k:Nat}{it:Itm}{t:List Itm}{j r c d s:Nat}{Γ:ct}{L:List (Str×Int)}{ks ks':List Kd}{q:Kd}{ls:List Nat}{a8:List dN}
theorem y4{i:jw}(R:Rx H r s d Γ L ks ls a8)(b:(eJ 770 tab).bind (λF=>gd (uL (look eH [(iS,O.ref (s+1)),(mn,O.ref (s+2)),(fg,O.ref (s+3))])) (Y F))=Y kJ)(f:Ev o e H (.ref s))(hm:Ev m e H (aH a))(h:Out H (λv=>K (.int v)) X (vc Γ i a)):aM aJ eH tab o [aL (.str i.q),m] e H K X:=by
 refine dB f (cV R.sp.sp b) (aj ax (aj hm aC)) ?_;cases a with
 |br=>exact h.elim
 |tok w r c=>exact Im R.sp h
theorem qS{a e:Type}{x:Res a}{f:a->Res e}{K0:e->List MO->Prop}{b:a->List MO->Prop}(h:dO ps es H K0 X (x.bind f))(le:Up es H G)(k:∀v F,Le G F->dO ps es H K0 X (f v)->b v F):Out G b X x:=h.bd le k
noncomputable def I6:List O->Bool | []=>W|_::_=>UA
theorem eq_nil(h:H[k]?=Y (.lst xs)):bf (.ref k) (.lst []) H=Y (I6 xs):=by
 have e1:(jI (.ref k) (.lst []) λa b=>Y (a == b))=Sa:=rfl;have e2:((aS (.ref k)).bind λx=>(aS (.lst [])).bind λy=>Y (x == y))=Sa:=rfl;unfold bf;rw[e1,e2];show alt (wd (.ref k) (.lst []) H) (ji (.ref k) (.lst []) H)=_;unfold wd;rw[kU h];cases xs with
 |nil =>
  show ji _ _ _=_;unfold ji;have:toPy H cY (.ref k)=Y (amd []):=by
   show(((H[k]?).bind zf).bind λxs=>(eQ (toPy H 49) xs).map amd)=_;rw[h];rfl
  rw[this];rfl
 |cons=>rfl
theorem ne_nil(h:H[k]?=Y (.lst xs)):dk (.ref k) (.lst []) H=Y (!I6 xs):=by
 unfold dk;rw[eq_nil h];rfl
theorem Ug:∀(n:Nat) (t:List Itm),∃a,t=iy n t++a/\(iy n t).length<=n
 |0,t=>⟨t,rfl,VJ _⟩
 |n+1,[]=>⟨[],rfl,akQ _⟩
 |n+1,it::r=>by
  refine aU (Ug n r) λa e l=>?_;show ∃a,it::r=cond (fL (it::r)) (it::iy n r) []++a/\(cond (fL (it::r)) (it::iy n r) []).length<=n+1;cases fL (it::r) with
  |true=>exact⟨a,congrArg (it :: ·) e,akL l⟩
  |false=>exact⟨it::r,rfl,akQ _⟩
theorem Ps.dr:∀{n:Nat}{k:Nat}{t:List Itm},Ps is k t->n<=t.length->Ps is (k+n) (t.drop n)
 |0,_,_,p,_=>p
 |n+1,k,it::r,p,h=>by rw[show k+(n+1)=k+1+n by lia];exact Ps.dr p.nx (air h)
theorem NM(a b:List Itm):aP (a++b)=aP a++aP b:=by rw[pJ,pJ,pJ,akG]
theorem adb(p:Ps is k t)(h:∀G i,Le H G->G[i]?=Y (.lst (aP (iy 2 t)))->H[i]?=Sa->Kf .next [Y A,Y y,Y z,Y tk,Y (.lst (aP is)),Y (.int k),Y (.ref i),Sa,Sa,Sa] G): ak (bA 6 (gj [])) (gm aru arz) [Y A,Y y,Y z,Y tk,Y (.lst (aP is)),Y (.int k),Sa,Sa,Sa,Sa] H Kf (λC fs _ H=>X C fs H):=by
 refine fo ?_;show gm _ _ [Y A,Y y,Y z,Y tk,Y (.lst (aP is)),Y (.int k),Y (.ref H.length),Sa,Sa,Sa] (H++[.lst []]) _ _;have M:=iJ H;have w:=ef H (.lst []);have D:=Le.n H (.lst []);generalize H.length=i at M w ⊢;generalize H++[MO.lst []]=G0 at w D ⊢;refine ve (λf:List Itm=>2 - f.length) (λf e G=>∃t',t=f++t'/\e=[Y A,Y y,Y z,Y tk,Y (.lst (aP is)),Y (.int k),Y (.ref i),Sa,Sa,Sa]/\Le H G/\G[i]?=Y (.lst (aP f))/\f.length<=2/\f++iy (2 - f.length) t'=iy 2 t) ?_ [] (by show 2 - 0 < 3000;decide) ⟨t,rfl,rfl,D,w,akQ _,rfl⟩;intro f e G go N T;refine Dd T λt' E I le w Q l=>?_;subst E;subst I;have a:jM (.ref i) G=Y (.int f.length):=by rw[ny w (c8 (by rw[lX];exact VR Q (by decide))),lX]
 have Z:Ps is (k+f.length) t':=by have:=Ps.dr p (n:=f.length) (by rw[VK];exact akx _ _);rw[List.drop_left]at this;exact this
 by_cases h2:f.length=2
 .have x:eL (.int f.length) (.int 2) G=Y UA:=lH (ahR (by rw[h2];decide));have e:iy (2 - f.length) t'=[]:=by rw[h2];rfl
  rw[e,af1]at l;exact(show Ev _ _ G UA from gQ (bb (de (af rfl) a) ax x)) _ _ (cF rfl (h G i le (by rw[←l];exact w) M))
 .have h3:f.length < 2:=amT Q h2;have x:eL (.int f.length) (.int 2) G=Y W:=lH (ab8 (akq.mpr h3));have hx:=hS (F:=kK) (e:=[Y A,Y y,Y z,Y tk,Y (.lst (aP is)),Y (.int k),Y (.ref i),Sa,Sa,Sa]) (as:=[bq,ao aX bz (b7 bZ)]) (H:=G) (xs:=[.lst (aP is),.int (k+f.length:Nat)]) (v:=.bool (fL t')) (aj (af rfl) (aj (bB (af rfl) (de (af rfl) a) rfl) aC)) (λK X kk=>OF Z kk);obtain⟨m,hm⟩: ∃m,2 - f.length=m+1:=⟨1 - f.length,Nat.succ_sub (alv h3)⟩;rw[hm]at l;have B:fL t'=UA->f=iy 2 (f++t')->_:=λhb l=>(show Ev aru [Y A,Y y,Y z,Y tk,Y (.lst (aP is)),Y (.int k),Y (.ref i),Sa,Sa,Sa] G UA from eY (bb (de (af rfl) a) ax x) (gQ (fP (hb▸hx) rfl))) (λg H=>cP g (arz [Y A,Y y,Y z,Y tk,Y (.lst (aP is)),Y (.int k),Y (.ref i),Sa,Sa,Sa] H (mz go Kf) λC fs _ H=>X C fs H) (Kf .next [Y A,Y y,Y z,Y tk,Y (.lst (aP is)),Y (.int k),Y (.ref i),Sa,Sa,Sa] H)) (xE (λC fs _ H=>X C fs H) [Y A,Y y,Y z,Y tk,Y (.lst (aP is)),Y (.int k),Y (.ref i),Sa,Sa,Sa]) (cF rfl (h G i le (by rw[←l];exact w) M));cases t' with
  |nil=>exact B rfl (by rw[←l];exact(af1 f).symm)
  |cons it t2 =>
   have ek:iy (m+1) (it::t2)=cond (fL (it::t2)) (it::iy m t2) []:=rfl;rw[ek]at l;refine bc (b:=fL (it::t2)) (λhb=>?_) λhb=>?_
   .rw[hb]at hx l;refine(show Ev _ _ G W from eY (bb (de (af rfl) a) ax x) (eY (fP hx rfl) (by walk_at "e"))) _ _ (cT rfl ?_);refine hO (af rfl) (hZ w) kL (jX (xs:=[aH it]) (aj (bB (af rfl) (bB (v:=.int (k+f.length:Nat)) (af rfl) (de (af rfl) a) rfl) (lF Z G)) aC) (oI (lQ w (c8 (by rw[lX];exact VR Q (by decide)))) ?_));have S:(f++[it]).length=f.length+1:=VK;refine N (f++[it]) _ _ (by rw[S,amM];exact Nat.sub_lt (ao5 h3) aqQ) ⟨t2,by rw[akn];rfl,rfl,le.st M _,?_,by rw[S];exact h3,?_⟩
    .rw[eS w,NM];rfl
    .rw[S,amM,hm,akn];exact l
   .rw[hb]at l;exact B hb (by rw[←l];exact(af1 f).symm)
theorem ahq(k:ak A B e H (lJ C Kf Xf) Xf):ak A (ak B C) e H Kf Xf:=by
 show A e H (lJ (ak B C) Kf Xf) Xf;rw[←Tp];exact k
theorem adX{i:Type}{f:Itm->Res i}{K0:i->List MO->Prop}{e:Itm->List MO->Prop}(hx:fL t=UA)(h:Out H K0 X ((lD tk t).bind f))(le:Le H G):Out G e X (lD tk t):=by
 cases t with
 |nil=>exact DH h le
 |cons a b =>
  have h:Out H K0 X ((cond (fL (a::b)) (.ok a) (odd a)).bind f):=h;show Out G e X (cond (fL (a::b)) (.ok a) (odd a));rw[hx]at h ⊢;exact DH h le
theorem abi(x:H[k1]?=Sa)(y:Rx H r s d Γ L ks ls a8)(w:H[k0]?=Y (.lst (aP f))):∀(rest:List Itm) (i:Nat) (acc:List Int) (G:List MO) (n:Nat),f.drop i=rest->rest.length < n->acc.length+rest.length<=10->Le H G->G[k1]?=Y (.lst (iA acc))->Out H (λvs=>K (.lst (iA vs))) X (zT Γ acc rest)-> xT arx [Y (.ref r)] k0 k1 (λG=>lY k1 G K) X n i G:=by
 intro rest;induction rest with
 |nil =>
  intro i acc G n b l z le m h;cases n with
  |zero=>cases l
  |succ n =>
   refine oI (a:=aP f) (by rw[le.g w];rfl) ?_;have e:(aP f)[i]?=Sa:=by rw[Fb,←alg,b];rfl
   rw[e];exact oI (a:=iA acc) (by rw[m];rfl) (h _ (le.st x .dead))
 |cons a rest B =>
  intro i acc G n b l z le m h;cases n with
  |zero=>cases l
  |succ n =>
   refine oI (a:=aP f) (by rw[le.g w];rfl) ?_;have e:(aP f)[i]?=Y (aH a):=by rw[Fb,←alg,b];rfl
   refine E9 e ?_;have h:Out H (λvs=>K (.lst (iA vs))) X ((vc Γ .table a).bind λv=>zT Γ (acc++[v]) rest):=h;have R:=y.nu le;refine y4 (i:=.table) R rfl (u7 R.rd rfl) (af rfl) (qS h le λv F e2 h=>?_);have p:=e2.g m;have A:qQ k1 (.int v) F=Y (F.set k1 (.lst (iA (acc++[v])))):=by
    unfold qQ;rw[p];show gd (fits (iA acc)) _=_;rw[show fits (iA acc)=W from c8 (by rw[PM];lia),nh];rfl
   refine oI A ?_;exact B (i+1) (acc++[v]) _ n (by rw[akF,b];rfl) (amc l) (by rw[VK];simp only[WB,akf]at *;lia) ((le.t e2).st x _) (eS p _) h
theorem Nd(b:Rx H r s d Γ L ks ls a8)(a:H[k0]?=Y (.lst (aP f)))(m:f.length<=2)(he:e[0]?=Y (Y (.ref r)))(l:e[6]?=Y (Y (.ref k0)))(h:Out H (λvs=>K (.lst (iA vs))) X (zT Γ [] f)): tm bZ [0] arx e H K X:=by
 have i:pR [0] e=Y [Y (.ref r)]:=by
  show((e[0]?).bind id).bind _=_;rw[he];rfl
 refine cast Nc.symm (oI i (af l _ _ (oI (tO a) ?_)));exact abi (iJ H) b a f 0 [] _ 3000 rfl (by lia) (by simp only[akf];lia) (Le.n H _) (ef H _) h
theorem CM(h:H[k]?=Y (.lst (aP (a::f))))(e:(a::f).length<=2):aN az (.ref k) (.int 0) H=Y (aH a):=by
 unfold aN;rw[kU h]
 match f,e with
 | [],_=>rfl
 | [b],_=>rfl
 |b::c::f,e=>simp only[WB]at e;lia
theorem ix1(h:H[k]?=Y (.lst (aP [a]))):aN az (.ref k) (.int (-1)) H=Y (aH a):=by
 unfold aN;rw[kU h];rfl
theorem ix2(h:H[k]?=Y (.lst (aP [a,b]))):aN az (.ref k) (.int (-1)) H=Y (aH b):=by
 unfold aN;rw[kU h];rfl
theorem ae4(h:e[i]?=Y (Y v)){K:bp}:Loc i e H K X=K v H:=by unfold Loc;rw[h];rfl
theorem SD{i j:Nat}{M A:EM O}{e:En}{c z:O}{b:KF}{XE:KE}(h1:e[i]?=Y (Y c))(h3:e[j]?=Y (Y z))(f:M e H (λv G=>A e G (λu G=>b (.ret (.tup [.tup [c,v,z],u])) e G) (xE XE e)) (xE XE e)):aV (au [au [Loc i,M,Loc j],A]) e H b XE:=by
 conv=>whnf
 refine oI (a:=c) (by rw[h1];rfl) ?_;refine cast (congrFun (congrArg (M e H) (funext λv=>funext λG=>?_)) _) f;show A e G _ _=Loc j e G _ (xE XE e);rw[ae4 h3];rfl
theorem afR{w:OW}{tk:Itm}(p:Ps is k t)(R:Rx H r s d Γ L ks ls a8)(h:Out H (kI is K) X (C8 Γ w.1 tk t)):Bt [.ref r,.int (oN w.1.code),.str w.1.aZ.v,aH tk,.lst (aP is),.int k] H K X:=by
 unfold Bt;refine B5 (ahq (adb p λG B le m hn=>JP rfl rfl ?_));have R:=R.nu le;have h9:=ac2 w.1.aZ;have E:=ac3 w.1.aZ;refine aU (Ug 2 t) λt' et z=>?_;have p0:iy 2 t=[]->fL t=UA:=λe=>by
  cases t with
  |nil=>rfl
  |cons a b =>
   have e:cond (fL (a::b)) (a::iy 1 b) []=[]:=e;cases q:fL (a::b) with|false=>rfl|true=>rw[q]at e;cases e
 have p1:∀a f',iy 2 t=a::f'->lD tk t = .ok a:=λa f' e=>by
  cases t with
  |nil=>cases e
  |cons x y =>
   have e:cond (fL (x::y)) (x::iy 1 y) []=a::f':=e;show cond (fL (x::y)) (.ok x) (odd x)= .ok a;cases q:fL (x::y) with|false=>rw[q]at e;cases e|true=>rw[q]at e;cases e;rfl
 unfold C8 at h;generalize iy 2 t=f at h m et z p0 p1;have sp:∀{e:En},e[0]?=Y (Y (.ref r))->Ev (aw dR [695] [] ai) e G (.ref s):=λhe=>u7 R.rd he;have pn:∀n,n<=f.length->Ps is (k+n) (t.drop n):=λn hn=>Ps.dr p (by rw[et,VK];lia);have A:jM (.ref B) G=Y (.int f.length):=by rw[ny m (c8 (by rw[lX];lia)),lX]
 refine bc (b:=VH w.1.aZ.n 9) (λhb=>?_) λhb=>?_
 .rw[hb]at h h9;refine bM (by walk_at "e") (fW ?_);have hq:=eq_nil m;cases f with
  |nil=>exact bM (bb (af rfl) (show Ev (ar []) _ G (.lst []) fromλK X k=>k) hq) (mN (v:=.tup [.tup (iA [(oN w.1.code:Int),0]),.int k]) (c9 (aj (c9 (aj (af rfl) (aj ax aC)) rfl) (aj (af rfl) aC)) rfl) (h G le k p))
  |cons a f' =>
   refine bL (bb (af rfl) (show Ev (ar []) _ G (.lst []) fromλK X k=>k) hq) (zM (JF rfl (y4 (i:=.table) R rfl (sp rfl) (bB (af rfl) ax (CM m z)) (qS h le.u λv F e h=>?_))));exact(show Ev (ao aX bz (ah 1)) _ F (O.int (k+1:Nat)) from bB (af rfl) ax rfl) _ _ (h F (le.t e) (k+1) (pn 1 (akL (akQ _))))
 .rw[hb]at h h9;refine bL (by walk_at "e") ?_;refine bc (b:=VH w.1.aZ.n 19) (λS=>?_) λS=>?_
  .rw[S]at h E;refine bM (by walk_at "e") (fW ?_);have D:∀(F:List MO) (ys:List O) (l:List Int) (Z:O),F[B]?=Y (.lst (aP f))->(∀{e:En},e[6]?=Y (Y (.ref B))->e[7]?=Y (Y Z)->Ev asr e F (.lst ys))->[O.int (oN w.1.code)]++ys=iA l->bw l 1000=W->K (.tup [.tup (iA l),.int (k+f.length:Nat)]) F->∀{C:SM},ak arC C [Y (.ref r),Y (.int (oN w.1.code)),Y (.str w.1.aZ.v),Y (aH tk),Y (.lst (aP is)),Y (.int k),Y (.ref B),Y Z,Sa,Sa] F (d6 K) (λC fs _ H=>X C fs H):=λF ys l Z m hy hl hs hK {C}=>by
    have I:fits (iA l)=W:=pQ hs;have ea:aX (.lst [.int (oN w.1.code)]) (.lst ys) F=Y (.lst (iA l)):=by rw[←hl];exact add_l (y:=.lst ys) rfl (by rw[hl];exact I)
    have A:jM (.ref B) F=Y (.int f.length):=by rw[ny m (c8 (by rw[lX];lia)),lX]
    exact zM (DJ (l:=l) (ya (bB (show Ev (ar [ay]) _ F (.lst [.int (oN w.1.code)]) fromλK X k=>k) (hy rfl rfl) ea) rfl I) (bB (v:=.int (k+f.length:Nat)) (af rfl) (de (af rfl) A) rfl) hK)
   have M:=λ(F:List MO) (m:F[B]?=Y (.lst (aP f)))=>ne_nil m;induction f using cL with
   |nil =>
    refine bL (bb (de (af rfl) A) ax rfl) (fo (Nd R m z rfl rfl λF e=>?_));exact D F [.int 0,.int 0] [(oN w.1.code:Int),0,0] _ (Le.g e m) (λN h7=>jz (bb (af N) (show Ev (ar []) _ F (.lst []) fromλK X k=>k) (M F (Le.g e m))) λK X k=>k) rfl rfl (h F (le.t e) k p)
   |cons a f =>
    induction f using cL with
    |nil =>
     exact bM (bb (de (af rfl) A) ax rfl) (c6 (cG (aj ax (aj (bB (af rfl) ax (CM m z)) aC)) (gU (h.sub le))))
    |cons b f =>
     induction f using cL with
     |nil =>
      refine bL (bb (de (af rfl) A) ax rfl) (fo (Nd R m z rfl rfl (qS h le.u λvs F e h=>?_)));refine a9 h.gr λT h=>?_;exact D F (iA vs) ((oN w.1.code:Int)::vs) _ (e.g m) (λN h7=>lp (bb (af N) (show Ev (ar []) _ F (.lst []) fromλK X k=>k) (M F (e.g m))) (af h7)) rfl T (h F (le.t e) (k+2) (pn 2 (VJ _)))
     |cons x f=>simp only[WB]at z;lia
  .rw[S]at h E;refine bL (by walk_at "e") ?_;have idx:∀(a:Itm) (f':List Itm),f=a::f'->∀(Q:Itm->List MO->Prop),(∀F,Le G F->Q a F)->Out G Q X (lD tk t):=λa f' e Q hQ=>by rw[p1 _ _ e];exact hQ
   induction f using cL with
   |nil=>exact fo (cG (aj (af rfl) (aj (af rfl) (aj (af rfl) aC))) (yY p (adX (p0 rfl) h le)))
   |cons a f =>
    induction f using cL with
    |nil =>
     refine fo (cG (aj (af rfl) (aj (af rfl) (aj (af rfl) aC))) (yY p (idx _ _ rfl _ λF e=>?_)));have R:=R.nu e;have le:=le.t e;have m:=e.g m;have A:jM (.ref B) F=Y (.int 1):=by rw[ny m rfl];rfl
     refine dz (jz (bb (de (af rfl) A) ax rfl) ax) (SD rfl rfl (y4 (i:=.elem) R rfl (u7 R.rd rfl) (bB (af rfl) (tY ax rfl) (ix1 m)) (qS h le λv F e h=>?_)));exact(show Ev (ao aX bz (b7 bZ)) _ F (O.int (k+1:Nat)) from bB (af rfl) (de (af rfl) (by rw[ny (e.g m) rfl])) rfl) _ _ (h F (le.t e) (k+1) (pn 1 (VJ _)))
    |cons b f =>
     induction f using cL with
     |nil =>
      refine fo (cG (aj (af rfl) (aj (af rfl) (aj (af rfl) aC))) (yY p (idx _ _ rfl _ λF e=>?_)));have R:=R.nu e;have le:=le.t e;have m:=e.g m;have A:jM (.ref B) F=Y (.int 2):=by rw[ny m rfl];rfl
      refine fo ((show Ev (aF bf (b7 bZ) (ah 2)) _ F W from bb (de (af rfl) A) ax rfl) _ _ (cT rfl ?_));refine y4 (i:=.table) R rfl (u7 R.rd rfl) (af rfl) (qS h le λv F e h=>?_);have R:=R.nu e;have le:=le.t e;have m:=e.g m;refine SD rfl rfl (y4 (i:=.elem) R rfl (u7 R.rd rfl) (bB (af rfl) (tY ax rfl) (ix2 m)) (qS h le λv F e h=>?_));exact(show Ev (ao aX bz (b7 bZ)) _ F (O.int (k+2:Nat)) from bB (af rfl) (de (af rfl) (by rw[ny (e.g m) rfl])) rfl) _ _ (h F (le.t e) (k+2) (pn 2 (VJ _)))
     |cons x f=>simp only[WB]at z;lia
end
theorem B0(f:Fm)(g:Str->Option Bool)(m:Nat->Bool)(h:([Fm.f0,.f1,.f2,.f3,.f4,.f5,.f6,.f7,.f8,.f9,.f10,.f11,.f12,.f13,.f14,.f15,.f16,.f17,.f18,.f19,.f20].map λf=>g f.v)=(akk 21).map λj=>Y (m j)):g f.v=Y (m f.n):=by
 have e:∀j:Nat,([Fm.f0,.f1,.f2,.f3,.f4,.f5,.f6,.f7,.f8,.f9,.f10,.f11,.f12,.f13,.f14,.f15,.f16,.f17,.f18,.f19,.f20].map λf=>g f.v)[j]?=((akk 21).map λj=>Y (m j))[j]?:=λj=>by rw[h]
 cases f with
 |f0=>exact UB (e 0)
 |f1=>exact UB (e 1)
 |f2=>exact UB (e 2)
 |f3=>exact UB (e 3)
 |f4=>exact UB (e 4)
 |f5=>exact UB (e 5)
 |f6=>exact UB (e 6)
 |f7=>exact UB (e 7)
 |f8=>exact UB (e 8)
 |f9=>exact UB (e 9)
 |f10=>exact UB (e 10)
 |f11=>exact UB (e 11)
 |f12=>exact UB (e 12)
 |f13=>exact UB (e 13)
 |f14=>exact UB (e 14)
 |f15=>exact UB (e 15)
 |f16=>exact UB (e 16)
 |f17=>exact UB (e 17)
 |f18=>exact UB (e 18)
 |f19=>exact UB (e 19)
 |f20=>exact UB (e 20)
noncomputable def JO(n:Nat):jw:=cond (VH n 4) .func (cond (VH n 8) .global (cond (VH n 18) .elem .data))
section
variable{K:bp}{X:KX}{H G:List MO}{is:List Itm}{k:Nat}{it:Itm}{t:List Itm}{j r c d s:Nat}{Γ:ct}{L:List (Str×Int)}{ks ks':List Kd}{q:Kd}{ls:List Nat}{a8:List dN}
theorem ad9(f:Fm):cI az (.str f.v) (.tup [.str gB,.str fS,.str rm]) H=Y (bx f.n [0,10,16]):=B0 f (λx=>cI az (.str x) (.tup [.str gB,.str fS,.str rm]) H) (λn=>bx n [0,10,16]) (by kernel_rfl!)
theorem aea(f:Fm):cI az (.str f.v) (.gl 416) H=Y (bx f.n [4,8,15,18,14]):=B0 f (λx=>cI az (.str x) (.gl 416) H) (λn=>bx n [4,8,15,18,14]) (by kernel_rfl!)
theorem ad8(f:Fm):cI az (.str f.v) (.tup [.str fR,.str fF,.str dg,.str mZ]) H=Y (bx f.n [7,2,3,5]):=B0 f (λx=>cI az (.str x) (.tup [.str fR,.str fF,.str dg,.str mZ]) H) (λn=>bx n [7,2,3,5]) (by kernel_rfl!)
theorem in_tab(f:Fm):cI az (.str f.v) (.tup [.str dh,.str rn,.str oj]) H=Y (bx f.n [9,17,19]):=B0 f (λx=>cI az (.str x) (.tup [.str dh,.str rn,.str oj]) H) (λn=>bx n [9,17,19]) (by kernel_rfl!)
theorem acZ(f:Fm):(f.v == m9)=VH f.n 20:=q5 f _ 20 (by kernel_rfl!)
theorem aeq(f:Fm)(h:VH f.n 20=W):f.y0=W:=by cases f<;>first|rfl|exact bD h
theorem ahT(f:Fm)(h:bx f.n [4,8,15,18,14]=W):aN az (.gl 416) (.str f.v) H=Y (.str (JO f.n).q):=by cases f<;>first|rfl|exact bD h
def iT(Γ:ct)(L:List (Str×Int))(a8:List dN)(ks:List Kd)(w:OW)(a b:Nat)(t:List Itm):Res Ti :=cond (w.1.txt == gD) ((zO [] UA t).bind λp=>.ok (p.1,p.2,ks,Sa)) (cond w.1.cz (odd (.tok w a b)) (cond (kZ w.1.code) (cond w.1.jf (.left w.1.txt a) (iK eN (.tok w a b))) (cond (bx w.1.aZ.n [0,10,16]) (.ok ([(oN w.1.code:Int)],t,ks,Sa)) (cond (bx w.1.aZ.n [4,8,15,18,14]) ((y6 Γ (JO w.1.aZ.n) (.tok w a b) t).bind λp=>.ok ([(oN w.1.code:Int),p.1],p.2,ks,Sa)) (cond (bx w.1.aZ.n [7,2,3,5]) (CE Γ L a8 ks w.1 (.tok w a b) t) (cond (bx w.1.aZ.n [9,17,19]) ((C8 Γ w.1 (.tok w a b) t).bind λp=>.ok (p.1,p.2,ks,Sa)) (cond (VH w.1.aZ.n 20) ((CX w.1 t).bind λp=>.ok (p.1,p.2,ks,Sa)) ((xN w.1 (.tok w a b) t).bind λp=>.ok (p.1,p.2,ks,Sa)))))))))
theorem P4(hw:nW w.1.sort=UA)(p:Ps is k t)(R:Rx H r s d Γ L ks ls a8)(h:d9 s H (j7 is s Γ K X) X (iT Γ L a8 ks w r1 c1 t)):yc [.ref r,aH (.tok w r1 c1),.lst (aP is),.int k] H K X:=by
 unfold yc;refine pS ?_;unfold iT at h;have br:∀{x:Res (List Int×List Itm)},d9 s H (j7 is s Γ K X) X (x.bind λp=>.ok (p.1,p.2,ks,Sa))->Out H (kI is K) X x:=λh=>qS h Up.r λp F e h T Z=>h F (Le.u e) T Z (R.sp.le e);have z:∀{e:En},e[1]?=Y (Y (aH (.tok w r1 c1)))->Ev (aw b9 [202] [] ay) e H (.str w.1.txt):=λhe=>cu (af he) AM rfl;refine bc (b:=w.1.txt == gD) (λhb=>?_) λhb=>?_
 .rw[hb]at h;exact bM (by walk_at "e") (qy (dB (af rfl) (cV R.rd rfl) (by walk_at "e") (ahu p (br h))))
 rw[hb]at h;refine bL (by walk_at "e") ?_;have f:=hS (F:=yn) (H:=H) (xs:=[.str w.1.txt]) (v:=.bool w.1.cz) (as:=[aw b9 [202] [] ay]) (e:=Y (O.ref r)::Y (aH (.tok w r1 c1))::Y (.lst (aP is))::Y (.int k)::dS 3) (aj (z rfl) aC) λK X k=>ll (w.2.cz hw) k;refine bc (b:=w.1.cz) (λC=>?_) λC=>?_
 .rw[C]at h f;exact bM (fP f rfl) (c6 (cG (aj ax (aj (af rfl) aC)) (gU (K0:=λ(_:Int) _=>True) (dO.DU h Up.r))))
 rw[C]at h f;refine bL (fP f rfl) (dz (v:=oA w.1.code) (hS (aj (z rfl) aC) λK X k=>ll (w.2.code hw) k) ?_);cases y:w.1.code with
 |none =>
  have h:d9 s H (j7 is s Γ K X) X (cond (kZ w.1.code) (cond w.1.jf (.left w.1.txt r1) (iK eN (.tok w r1 c1))) _):=h;rw[y]at h;have h:d9 s H (j7 is s Γ K X) X (cond w.1.jf (.left w.1.txt r1) (iK eN (.tok w r1 c1))):=h;refine bM (by walk_at "e") (fW ?_);have l:=hS (F:=ym) (H:=H) (xs:=[.str w.1.txt]) (v:=.bool w.1.jf) (as:=[aw b9 [202] [] ay]) (e:=(Y (O.ref r)::Y (aH (.tok w r1 c1))::Y (.lst (aP is))::Y (.int k)::dS 3).set 4 (Y (oA Sa))) (aj (z rfl) aC) λK X k=>ll (w.2.jf hw (by rw[y];rfl)) k;refine bc (b:=w.1.jf) (λB=>?_) λB=>?_
  .rw[B]at h l;exact bM (fP l rfl) (SA (aj (z rfl) (aj (by walk_at "e") aC)) (h _ (Le.n H .dead)))
  .rw[B]at h l;exact bL (fP l rfl) (c6 (cG (aj ax (aj (af rfl) aC)) (gU (K0:=λ(_:Int) _=>True) (dO.DU h Up.r))))
 |some Q =>
  have h:d9 s H (j7 is s Γ K X) X (cond (kZ w.1.code) _ (cond (bx w.1.aZ.n [0,10,16]) (.ok ([(oN w.1.code:Int)],t,ks,Sa))
  (cond (bx w.1.aZ.n [4,8,15,18,14]) ((y6 Γ (JO w.1.aZ.n) (.tok w r1 c1) t).bind λp=>.ok ([(oN w.1.code:Int),p.1],p.2,ks,Sa))
  (cond (bx w.1.aZ.n [7,2,3,5]) (CE Γ L a8 ks w.1 (.tok w r1 c1) t)
  (cond (bx w.1.aZ.n [9,17,19]) ((C8 Γ w.1 (.tok w r1 c1) t).bind λp=>.ok (p.1,p.2,ks,Sa))
  (cond (VH w.1.aZ.n 20) ((CX w.1 t).bind λp=>.ok (p.1,p.2,ks,Sa)) ((xN w.1 (.tok w r1 c1) t).bind λp=>.ok (p.1,p.2,ks,Sa)))))))):=h
  rw[show kZ w.1.code=UA by rw[y];rfl]at h;have S:oA (Y Q)=O.int (oN w.1.code):=by rw[y];rfl
  rw[S];refine bL (by walk_at "e") (dz (v:=.str w.1.aZ.v) (hS (aj (af rfl) aC) λK X k=>ll (w.2.aZ hw) k) ?_);have E:∀{b},bx w.1.aZ.n [0,10,16]=b->cI az (.str w.1.aZ.v) (.tup [.str gB,.str fS,.str rm]) H=Y b:=λe=>e▸ad9 _;have I:∀{b},bx w.1.aZ.n [4,8,15,18,14]=b->cI az (.str w.1.aZ.v) (.gl 416) H=Y b:=λe=>e▸aea _;have M:∀{b},bx w.1.aZ.n [7,2,3,5]=b->cI az (.str w.1.aZ.v) (.tup [.str fR,.str fF,.str dg,.str mZ]) H=Y b:=λe=>e▸ad8 _;have N:∀{b},bx w.1.aZ.n [9,17,19]=b->cI az (.str w.1.aZ.v) (.tup [.str dh,.str rn,.str oj]) H=Y b:=λe=>e▸in_tab _;have i:=acZ w.1.aZ;have tp:∀{a b c:O}{e:En},Ev (au [aL a,aL b,aL c]) e H (.tup [a,b,c]):=λK X k=>k;have m:∀{a b c d:O}{e:En},Ev (au [aL a,aL b,aL c,aL d]) e H (.tup [a,b,c,d]):=λK X k=>k;refine bc (b:=bx w.1.aZ.n [0,10,16]) (λhb=>?_) λhb=>?_
  .rw[hb]at h;exact bM (bb (af rfl) tp (E hb)) (mN (v:=.tup [.tup (iA [(oN w.1.code:Int)]),.int k]) (c9 (aj (c9 (aj (af rfl) aC) rfl) (aj (af rfl) aC)) rfl) (h H Up.r k p R.sp))
  rw[hb]at h;refine bL (bb (af rfl) tp (E hb)) ?_;refine bc (b:=bx w.1.aZ.n [4,8,15,18,14]) (λhb=>?_) λhb=>?_
  .rw[hb]at h;refine bM (bb (af rfl) ax (I hb)) (fW (i6 (dB (af rfl) (cV R.rd rfl) (aj (bB ax (af rfl) (ahT _ hb)) (aj (af rfl) (aj (af rfl) (aj (af rfl) aC)))) ?_)));refine PZ p R (qS h Up.r λv F e h D p2=>?_);refine oI (a:=[Y (.ref r),Y (aH (.tok w r1 c1)),Y (.lst (aP is)),Y (.int D),Y (.int (oN w.1.code)),Y (.str w.1.aZ.v),Y (.int v.1)]) rfl ?_;exact mN (v:=.tup [.tup (iA [(oN w.1.code:Int),v.1]),.int D]) (c9 (aj (c9 (aj (af rfl) (aj (af rfl) aC)) rfl) (aj (af rfl) aC)) rfl) (h F (Le.u e) D p2 (R.sp.le e))
  rw[hb]at h;refine bL (bb (af rfl) ax (I hb)) ?_;have A:jr [bq,bz,ay,aB,aW] [Y (.ref r),Y (aH (.tok w r1 c1)),Y (.lst (aP is)),Y (.int k),Y (.int (oN w.1.code)),Y (.str w.1.aZ.v),Sa] H [.int (oN w.1.code),.str w.1.aZ.v,aH (.tok w r1 c1),.lst (aP is),.int k]:=by walk_at "e"
  refine bc (b:=bx w.1.aZ.n [7,2,3,5]) (λhb=>?_) λhb=>?_
  .rw[hb]at h;exact bM (bb (af rfl) m (M hb)) (qy (dB (af rfl) (cV R.rd rfl) A (aee p R h)))
  rw[hb]at h;refine bL (bb (af rfl) m (M hb)) ?_;refine bc (b:=bx w.1.aZ.n [9,17,19]) (λhb=>?_) λhb=>?_
  .rw[hb]at h;exact bM (bb (af rfl) tp (N hb)) (qy (dB (af rfl) (cV R.rd rfl) A (afR p R (br h))))
  rw[hb]at h;refine bL (bb (af rfl) tp (N hb)) ?_;refine bc (b:=VH w.1.aZ.n 20) (λhb=>?_) λhb=>?_
  .rw[hb]at h i;exact bM (bb (af rfl) ax (sV i)) (qy (dB (af rfl) (cV R.rd rfl) (aj (af rfl) (aj (af rfl) (aj (af rfl) aC))) (afp hw (aeq _ hb) p (br h))))
  .rw[hb]at h i;exact bL (bb (af rfl) ax (sV i)) (u9 (dB (af rfl) (cV R.rd rfl) A (abu p (br h))))
end
inductive dc where
 |run (is t:List Itm) (f:Bool) (b:Option Nat)
 |emit (v:List Int)
 |jh (v:List Int) (l:dN)
 |cls
noncomputable def oB:Option Nat->O|none=>.none|some n=>.int n
def jl(is:List Itm)(k:Nat)(f:Bool)(b:Option Nat):MO:=.inst 522 [(bY,.lst (aP is)),(cg,.int k),(p5,.bool f),(ml,oB b)]
def i9(l:List (List Int)):List O:=l.map λv=>.tup (iA v)
def tA(x:dc×Nat):O:=match x.1 with
 | .run ..=>.tup [.str jE,.ref x.2]
 | .emit v=>.tup [.str zD,.tup (iA v)]
 | .jh v _=>.tup [.str yA,.tup [.tup (iA v),.ref x.2]]
 | .cls=>.tup [.str qr,.none]
def gO(H:List MO)(x:dc×Nat):Prop:=match x.1 with
 | .run is t f b=>∃k,Ps is k t/\H[x.2]?=Y (jl is k f b)
 | .jh _ l=>H[x.2]?=Y (fT l)
 |_=>True
noncomputable def fV(x:dc×Nat):List Nat:=match x.1 with | .run ..=>[x.2]| .jh ..=>[x.2]|_=>[]
noncomputable def own:List (dc×Nat)->List Nat | []=>[]|x::r=>fV x++own r
structure Co where
 body:List (List Int)
 a8:List dN
 ks:List Kd
structure Sr (H:List MO) (r s d:Nat) (Γ:ct) (L:List (Str×Int)) (c:Co) (ls:List Nat) (ti:List (dc×Nat)):Prop where
 rx:Rx H r s d Γ L c.ks ls c.a8
 bd:H[r+1]?=Y (.lst (i9 c.body))
 tk:H[r+3]?=Y (.lst (ti.map tA).reverse)
 ta:∀x,x∈ti->gO H x
 nd:(ls++own ti).Nodup
section
variable{K:bp}{X:KX}{H G:List MO}{is:List Itm}{k:Nat}{it:Itm}{t:List Itm}{j r d s:Nat}{Γ:ct}{L:List (Str×Int)}{ks ks':List Kd}{q:Kd}{ls:List Nat}{a8:List dN}{c:Co}{ti:List (dc×Nat)}
noncomputable def ID:MO->Nat | .lst _=>0 | .bu _=>1 | .inst C _=>C+2 | .exc _ _=>2 | .dead=>3
theorem fU{a b:Nat}{m m':MO}(h1:H[a]?=Y m)(h2:H[b]?=Y m')(h:ID m≠ID m'):a≠b:=λe=>by rw[e,h2]at h1;exact h (congrArg ID (UB h1).symm)
theorem TL{x C:Nat}{fs:List (Str×O)}(S:da H s Γ ks)(h:H[x]?=Y (.inst C fs))(f:C≠770):∀i,i < 11->s+i≠x:=λi hi=>by
 have b:∀{a:Nat}{fs:List (Str×O)},H[a]?=Y (.bu fs)->a≠x:=λe=>fU e h (by show 1≠C+2;lia)
 match i,hi with
 |0,_=>exact fU S.sp h (by show 770+2≠C+2;lia)
 |1,_=>exact b S.ids
 |2,_=>refine VF S.many λm e=>?_;exact b e
 |3,_=>exact fU S.kinds h (by show 0≠C+2;lia)
 |4,_=>exact b (S.tb .type)
 |5,_=>exact b (S.tb .func)
 |6,_=>exact b (S.tb .table)
 |7,_=>exact b (S.tb .memory)
 |8,_=>exact b (S.tb .global)
 |9,_=>exact b (S.tb .elem)
 |10,_=>exact b (S.tb .data)
 |n+11,h=>lia
theorem da.st(S:da H s Γ ks)(n:∀i,i < 11->s+i≠x):da (H.set x m) s Γ ks:=S.up (ps:=[x]) (λk y e a=>sn e λq=>by subst q;have:bx x [x]=W:=(by show cond (VH x x) W UA=W;rw[alA];rfl);rw[this]at a;exact w5 a) (λi hi=>sS (n i hi))
theorem gL.st:∀{ls:List Nat}{a8:List dN},gL H ls a8->(∀i,i∈ls->i≠x)->gL (H.set x m) ls a8
 | [],[],_,_=>trivial
 |i::ls,l::a8,h,n=>⟨sn h.1 (acb (n i (WL ..))),gL.st h.2 λj a=>n j (af9 _ a)⟩
 | [],_::_,h,_=>h.elim
 |_::_,[],h,_=>h.elim
theorem gL.get:∀{ls:List Nat}{a8:List dN},gL H ls a8->∀{i:Nat},i∈ls->∃l,H[i]?=Y (fT l)
 |i::ls,l::a8,h,j,a=>by
  cases a with
  |head=>exact⟨l,h.1⟩
  |tail _ a=>exact gL.get h.2 a
 | [],_::_,h,_,_=>h.elim
 |_::_,[],h,_,_=>h.elim
theorem gO.st(h:gO H y)(n:∀i,i∈fV y->i≠x):gO (H.set x m) y:=by
 obtain⟨a,i⟩:=y;cases a with
 |run is t f b=>refine aU h λk p e=>?_;exact⟨k,p,sn e (acb (n i (WL ..)))⟩
 |emit=>trivial
 |jh v l=>exact sn (show H[i]?=Y (fT l) from h) (acb (n i (WL ..)))
 |cls=>trivial
theorem gO.up(h:gO H y)(u:Up ps H G)(n:∀i C fs,H[i]?=Y (.inst C fs)->bx i ps=UA):gO G y:=by
 obtain⟨a,i⟩:=y;cases a with
 |run is t f b=>refine aU h λk p e=>?_;exact⟨k,p,u _ _ e (n _ _ _ e)⟩
 |emit=>trivial
 |jh v l=>exact u _ _ h (n _ _ _ h)
 |cls=>trivial
theorem gO.inst(h:gO H y)(hi:i∈fV y):∃C fs,H[i]?=Y (.inst C fs):=by
 obtain⟨a,j⟩:=y;cases a with
 |run is t f b=>refine aU h λk p e=>?_;cases hi with|head=>exact⟨_,_,e⟩|tail _ h=>exact dw h
 |emit=>exact dw hi
 |jh v l=>cases hi with|head=>exact⟨_,_,h⟩|tail _ h=>exact dw h
 |cls=>exact dw hi
theorem Sr.le(S:Sr H r s d Γ L c ls ti)(u:Le H G):Sr G r s d Γ L c ls ti:=⟨S.rx.nu u,u.g S.bd,u.g S.tk,λx hx=>(S.ta x hx).up u λ_ _ _ _=>rfl,S.nd⟩
theorem Sr.up(S:Sr H r s d Γ L c ls ti)(u:Up [s+2,s+3] H G)(a:da G s Γ ks'):Sr G r s d Γ L ⟨c.body,c.a8,ks'⟩ ls ti :=
 have:=S.rx.rr
 ⟨S.rx.up u a,u _ _ S.bd (sT (by lia) (by lia)),u _ _ S.tk (sT (by lia) (by lia)),λx hx=>(S.ta x hx).up u λi C fs e=>v7 S.rx.sp e,S.nd⟩
theorem Rx.lst{x:Nat}{m:MO}{l:List O}(R:Rx H r s d Γ L ks ls a8)(hx:H[x]?=Y (.lst l))(h1:s+10 < x)(h2:x≠r+2):Rx (H.set x m) r s d Γ L ks ls a8 :=⟨sn R.rd (fU hx R.rd (show(0:Nat)≠697 by decide)),R.sp.st λi hi=>by lia,sn R.lo (fU hx R.lo (show(0:Nat)≠1 by decide)),sn R.lb h2,R.la.st λi hi=>by refine VF (R.la.get hi) λl' e=>?_;exact fU e hx (show(503:Nat)≠0 by decide),R.le,R.dd,R.rr⟩
theorem w6{x:Nat}{m:MO}{l:List O}{y:dc×Nat}(h:gO H y)(hx:H[x]?=Y (.lst l)):gO (H.set x m) y:=h.st λi hi=>by refine s6 (h.inst hi) λC fs e=>?_;exact fU e hx (akv _)
theorem Sr.body(S:Sr H r s d Γ L c ls ti)(b:List (List Int)):Sr (H.set (r+1) (.lst (i9 b))) r s d Γ L ⟨b,c.a8,c.ks⟩ ls ti :=
 have:=S.rx.rr
 ⟨S.rx.lst S.bd (by lia) (by lia),eS S.bd _,sn S.tk (by lia),λx hx=>w6 (S.ta x hx) S.bd,S.nd⟩
theorem Sr.tasks{ti':List (dc×Nat)}(S:Sr H r s d Γ L c ls ti)(a:∀x,x∈ti'->gO H x)(nd:(ls++own ti').Nodup):Sr (H.set (r+3) (.lst (ti'.map tA).reverse)) r s d Γ L c ls ti' :=
 have:=S.rx.rr
 ⟨S.rx.lst S.tk (by lia) (by lia),sn S.bd (by lia),eS S.tk _,λx hx=>w6 (a x hx) S.tk,nd⟩
theorem Sr.CR{a:List Nat}{labs':List dN}(S:Sr H r s d Γ L c ls ti)(b:gL H a labs')(le:bw a 1000=W)(nd:(a++own ti).Nodup):Sr (H.set (r+2) (.lst (refs a).reverse)) r s d Γ L ⟨c.body,labs',c.ks⟩ a ti :=
 have:=S.rx.rr;have R:=S.rx
 ⟨⟨sn R.rd (fU R.lb R.rd (show(0:Nat)≠697 by decide)),R.sp.st λi hi=>by lia,sn R.lo (fU R.lb R.lo (show(0:Nat)≠1 by decide)),eS R.lb _,b.st λi hi=>by refine VF (b.get hi) λl' e=>?_;exact fU e R.lb (show(503:Nat)≠0 by decide),le,R.dd,R.rr⟩,sn S.bd (by lia),sn S.tk (by lia),λx hx=>w6 (S.ta x hx) R.lb,nd⟩
theorem Rx.ins{x C:Nat}{fs:List (Str×O)}{m:MO}(R:Rx H r s d Γ L ks ls a8)(hx:H[x]?=Y (.inst C fs))(h1:C≠770)(h2:C≠695)(a:gL (H.set x m) ls a8):Rx (H.set x m) r s d Γ L ks ls a8 :=⟨sn R.rd (fU hx R.rd (by show C+2≠695+2;lia)),R.sp.st (TL R.sp hx h1),sn R.lo (fU hx R.lo (by show C+2≠1;lia)),sn R.lb (fU hx R.lb (by show C+2≠0;lia)),a,R.le,R.dd,R.rr⟩
theorem Dc:∀{ti:List (dc×Nat)},x∈ti->i∈fV x->i∈own ti
 |y::r,hx,hi=>by
  show i∈fV y++own r;cases hx with
  |head=>exact acG _ hi
  |tail _ hx=>exact aau _ (Dc hx hi)
end
inductive Ro (α:Type) where
 |stuck|ok (v:α)|bad (why:Str) (r c:Nat) (ks:List Kd)|left (why:Str) (r:Nat) (ks:List Kd)
noncomputable def o8{a β:Type}(ks:List Kd)(x:Res a)(f:a->Ro β):Ro β:=match x with
 | .stuck=>.stuck | .ok v=>f v | .bad w r c=>.bad w r c ks | .left w r=>.left w r ks
noncomputable def Ro.bind{a β:Type}(x:Ro a)(f:a->Ro β):Ro β:=match x with
 | .stuck=>.stuck | .ok v=>f v | .bad w r c ks=>.bad w r c ks | .left w r ks=>.left w r ks
noncomputable def ij{α:Type}(b:Bool)(x:Ro α):Ro α:=cond b x .stuck
def fz{α:Type}(ks:List Kd)(a:Str)(it:Itm):Ro α:=o8 ks (iK a it:Res Unit) λ_=>.stuck
def cf{e:Type}(a:List MO)(s:Nat)(b:ct)(P:e->List MO->Prop)(X:KX)(x:Ro e):Prop:=match x with
 | .stuck=>False
 | .ok v=>∀G,P v G
 | .bad w r c ks=>∀G,Up [s+2,s+3] a G->da G s b ks->X 164 (lj w r c) G
 | .left w r ks=>∀G,Up [s+2,s+3] a G->da G s b ks->X 183 (zb w r) G
structure Sx (H0 H:List MO) (r s d:Nat) (Γ:ct) (L:List (Str×Int)) (c:Co) (ls:List Nat) (ti:List (dc×Nat)):Prop where
 S:Sr H r s d Γ L c ls ti
 u:Up [s+2,s+3] H0 H
 h0:H0.length=r
 nw:∀i,i∈ls++own ti->r<=i
noncomputable def sR{a:Type}(ks:List Kd)(x:Ro a):Ai->Ro a|none=>x|some (w,r,c)=>.bad w r c ks
section
variable{K:bp}{X:KX}{H0 H G:List MO}{is:List Itm}{k:Nat}{it:Itm}{t:List Itm}{j r d s:Nat}{Γ:ct}{L:List (Str×Int)}{ks ks':List Kd}{q:Kd}{ls:List Nat}{a8:List dN}{c:Co}{ti:List (dc×Nat)}
theorem cf.xG{a i:Type}{x:Res a}{f:a->Ro i}{P:i->List MO->Prop}{b:a->List MO->Prop}(h:cf H0 s Γ P X (o8 ks x f))(u:Up [s+2,s+3] H0 H)(S:da H s Γ ks)(k:∀v F,Up [s+2,s+3] H F->cf H0 s Γ P X (f v)->b v F):d9 s H b X x:=by
 cases x with
 |stuck=>exact h
 |ok v=>exactλF e=>k v F e h
 |bad w r c=>exactλF e=>h F (u.t (Le.u e)) (S.le e)
 |left w r=>exactλF e=>h F (u.t (Le.u e)) (S.le e)
theorem cf.bdO{a i:Type}{x:Res a}{f:a->Ro i}{P:i->List MO->Prop}{b:a->List MO->Prop}(h:cf H0 s Γ P X (o8 ks x f))(u:Up [s+2,s+3] H0 H)(S:da H s Γ ks)(k:∀v F,Le H F->cf H0 s Γ P X (f v)->b v F):Out H b X x:=by
 cases x with
 |stuck=>exact h
 |ok v=>exactλF e=>k v F e h
 |bad w r c=>exactλF e=>h F (u.t (Le.u e)) (S.le e)
 |left w r=>exactλF e=>h F (u.t (Le.u e)) (S.le e)
theorem cf.bc{a:Type}{b:Bool}{x y:Ro a}{P:a->List MO->Prop}{G:Prop}(h:cf H0 s Γ P X (cond b x y))(k:b=W->cf H0 s Γ P X x->G)(e:b=UA->cf H0 s Γ P X y->G):G:=by
 induction b using cB with
 |true=>exact k rfl h
 |false=>exact e rfl h
theorem cf.gr{a:Type}{x:Ro a}{P:a->List MO->Prop}(h:cf H0 s Γ P X (ij b x)):b=W/\cf H0 s Γ P X x:=by
 cases b with|true=>exact⟨rfl,h⟩|false=>exact h.elim
theorem cf.rf{a:Type}{P:a->List MO->Prop}(h:cf H0 s Γ P X (fz ks why it))(u:Up [s+2,s+3] H0 H)(S:da H s Γ ks):Out H (λ(_:Unit) _=>True) X (iK why it):=h.bdO u S λ_ _ _ _=>trivial
theorem Sx.gY(Z:Sx H0 H r s d Γ L c ls ti):da H s Γ c.ks:=Z.S.rx.sp
theorem Sx.no(Z:Sx H0 H r s d Γ L c ls ti)(h:r<=i):H0[i]?=Sa:=WN (by rw[Z.h0];exact h)
theorem Sx.lt(Z:Sx H0 H r s d Γ L c ls ti):r < H.length:=(WC.mp Z.S.rx.rd).1
theorem Sx.le(Z:Sx H0 H r s d Γ L c ls ti)(e:Le H G):Sx H0 G r s d Γ L c ls ti:=⟨Z.S.le e,Z.u.t e.u,Z.h0,Z.nw⟩
theorem Sx.up(Z:Sx H0 H r s d Γ L c ls ti)(e:Up [s+2,s+3] H G)(a:da G s Γ ks'):Sx H0 G r s d Γ L ⟨c.body,c.a8,ks'⟩ ls ti:=⟨Z.S.up e a,Z.u.t e,Z.h0,Z.nw⟩
theorem Sx.body(Z:Sx H0 H r s d Γ L c ls ti)(b:List (List Int)):Sx H0 (H.set (r+1) (.lst (i9 b))) r s d Γ L ⟨b,c.a8,c.ks⟩ ls ti:=⟨Z.S.body b,Z.u.st (Z.no (by lia)) _,Z.h0,Z.nw⟩
theorem Sx.tasks{ti':List (dc×Nat)}(Z:Sx H0 H r s d Γ L c ls ti)(a:∀x,x∈ti'->gO H x)(nd:(ls++own ti').Nodup)(b:∀i,i∈ls++own ti'->r<=i):Sx H0 (H.set (r+3) (.lst (ti'.map tA).reverse)) r s d Γ L c ls ti':=⟨Z.S.tasks a nd,Z.u.st (Z.no (by lia)) _,Z.h0,b⟩
theorem Sx.CR(Z:Sx H0 H r s d Γ L c ls ti)(a:gL H ls' labs')(le:bw ls' 1000=W)(nd:(ls'++own ti).Nodup)(b:∀i,i∈ls'++own ti->r<=i):Sx H0 (H.set (r+2) (.lst (refs ls').reverse)) r s d Γ L ⟨c.body,labs',c.ks⟩ ls' ti:=⟨Z.S.CR a le nd,Z.u.st (Z.no (by lia)) _,Z.h0,b⟩
def kW(w:OW)(b a:Nat):List Itm->dN×List Itm
 | .tok u f e::t=>cond (eD u.1.sort) (⟨u.1.txt,w.1.txt,.tok w b a,UA⟩,t) (⟨fj,w.1.txt,.tok w b a,UA⟩,.tok u f e::t)
 |t=>(⟨fj,w.1.txt,.tok w b a,UA⟩,t)
theorem iZ(a:(bx C cs&&bw fs 900)=W):mH n cs es (.ref H.length) v (H++[.inst C fs])=Y (H++[.inst C (fN n v fs)]):=by
 rw[oU (ef H _) a,vb]
theorem MQ(h:K (.ref H.length) (H++[fT ⟨z,w.1.txt,.tok w r1 c1,UA⟩])):vy [.str z,.str w.1.txt,aH (.tok w r1 c1)] H K X:=by
 unfold vy;rw[dU];show BC _ _ _ _;unfold BC;exact pS (gW (af rfl) (af rfl) (iZ rfl) (gW (af rfl) (af rfl) (iZ rfl) (gW (af rfl) (af rfl) (iZ rfl) (yW ax (af rfl) (iZ rfl) h))))
theorem IF(p:Ps is k t)(h:∀m,Ps is m (kW w r1 c1 t).2->K (.tup [.ref H.length,.int m]) (H++[fT (kW w r1 c1 t).1])):vG [sf,aH (.tok w r1 c1),.lst (aP is),.int k] H K X:=by
 unfold vG;refine pS ?_;have no:kW w r1 c1 t=(⟨fj,w.1.txt,.tok w r1 c1,false⟩,t)->aV ar7 (some sf::some (aH (.tok w r1 c1))::some (.lst (aP is))::some (.int k)::dS 0) H (d6 K) (λC fs _ H=>X C fs H):=λe=>by
  rw[e]at h;refine DD (cG (aj ax (aj (by walk_at "e") (aj (af rfl) aC))) (MQ ?_));exact jX (xs:=[.int k]) (aj (af rfl) aC) (bI rfl (h k p))
 cases t with
 |nil=>exact bL (by walk_at "e") (no rfl)
 |cons it a=>cases it with
  |br=>exact bL (by walk_at "e") (no rfl)
  |tok u l f =>
   refine bc (b:=eD u.1.sort) (λi=>?_) λi=>?_
   .have e:kW w r1 c1 (.tok u l f::a)=(⟨u.1.txt,w.1.txt,.tok w r1 c1,false⟩,a):=by show cond _ _ _=_;rw[i];rfl
    rw[e]at h;refine bM (by walk_at "e") (zM (DD (cG (aj (by walk_at "e") (aj (by walk_at "e") (aj (af rfl) aC))) (MQ ?_))));exact jX (xs:=[.int (k+1:Nat)]) (aj (bB (af rfl) ax rfl) aC) (bI rfl (h (k+1) p.nx))
   .have e:kW w r1 c1 (.tok u l f::a)=(⟨fj,w.1.txt,.tok w r1 c1,false⟩,.tok u l f::a):=by show cond _ _ _=_;rw[i];rfl
    exact bL (by walk_at "e") (no e)
theorem SS(h:K (.tup [.str jE,.ref H.length]) (H++[jl is k f Sa])):jY [.lst (aP is),.int k,.bool f] H K X:=by
 unfold jY;refine kM ?_;conv=>whnf
 unfold EO;rw[dU];show Bz _ _ _ _;unfold Bz;exact pS (gW (af rfl) (af rfl) (iZ rfl) (gW (af rfl) (af rfl) (iZ rfl) (gW (af rfl) (af rfl) (iZ rfl) (yW ax (af rfl) (iZ rfl) h))))
theorem aaq(l:List (List Int)):(i9 l).length=l.length:=VO ..
theorem aap(l:List (List Int))(v:List Int):i9 l++[.tup (iA v)]=i9 (l++[v]):=by unfold i9;rw[akG];rfl
theorem SJ(a:H[r]?=Y (tc r s d))(he:e[i]?=Y (Y (.ref r))):Ev (aw fK [695] [] (Loc i)) e H (.ref (r+1)):=cu (af he) (eU a rfl rfl) rfl
theorem u6(a:H[r]?=Y (tc r s d))(he:e[i]?=Y (Y (.ref r))):Ev (aw dg [695] [] (Loc i)) e H (.ref (r+2)):=cu (af he) (eU a rfl rfl) rfl
theorem DE(a:H[r]?=Y (tc r s d))(he:e[i]?=Y (Y (.ref r))):Ev (aw iw [695] [] (Loc i)) e H (.ref (r+3)):=cu (af he) (eU a rfl rfl) rfl
theorem vA(Z:Sx H0 H r s d Γ L c ls ti)(f:bw c.body 1000=W)(he:e[0]?=Y (Y (.ref r)))(hm:Ev m e H (.tup (iA v)))(h:∀G:List MO,(∀(i C:Nat) (fs:List (Str×O)),H[i]?=Y (MO.inst C fs)->G[i]?=Y (MO.inst C fs))->Sx H0 G r s d Γ L ⟨c.body++[v],c.a8,c.ks⟩ ls ti->K .none G):aM aJ du [] (aw fK [695] [] ai) [m] e H K X:=by
 refine hO (SJ Z.S.rx.rd he) (hZ Z.S.bd) kL (jX (xs:=[.tup (iA v)]) (aj hm aC) (oI (lQ Z.S.bd (c8 (by rw[aaq];have:=c7 f;lia))) ?_));have:=Z.body (c.body++[v]);rw[←aap]at this;exact h _ (λi C fs e=>sn e (fU Z.S.bd e (acb (akv _)))) this
variable{i:Nat}
theorem gL.len:∀{ls:List Nat}{a8:List dN},gL H ls a8->ls.length=a8.length
 | [],[],_=>rfl
 |_::_,_::_,h=>congrArg (· + 1) (gL.len h.2)
 | [],_::_,h=>h.elim
 |_::_,[],h=>h.elim
theorem DI(i:Nat)(ls:List Nat):(refs (i::ls)).reverse=(refs ls).reverse++[.ref i]:=aeK ..
theorem N9(h:bw ls 1000=W):fits (refs ls).reverse=W:=c8 (by rw[aeG,zH];have:=c7 h;lia)
theorem Jk(Z:Sx H0 H r s d Γ L c ls ti)(e:H[i]?=Y (fT l))(hi:¬i∈ls++own ti)(f:r<=i)(b:bw c.body 1000=W)(fl:bw (i::ls) 1000=W)(h:∀G,Sx H0 G r s d Γ L ⟨c.body++[v],l::c.a8,c.ks⟩ (i::ls) ti->K .none G):vH [.ref r,.tup (iA v),.ref i] H K X:=by
 unfold vH;refine kM (c6 (vA Z b rfl (af rfl) λG m Z=>?_));have R:=Z.S.rx;refine(show ba _ _ _ _ _ from hO (u6 R.rd rfl) (hZ R.lb) kL (jX (xs:=[.ref i]) (aj (af rfl) aC) (oI (lQ R.lb (N9 R.le)) ?_)));rw[←DI];exact h _ (Z.CR (labs':=l::c.a8) ⟨m _ _ _ e,R.la⟩ fl (VU.mpr ⟨hi,Z.S.nd⟩) λj a=>by
  cases a with
  |head=>exact f
  |tail _ a=>exact Z.nw j a)
theorem M3(Z:Sx H0 H r s d Γ L c ls ti)(p:c.a8=l::labs')(x:ls=i::ls')(f:bw c.body 1000=W)(h:∀G,Sx H0 G r s d Γ L ⟨c.body++[[11]],labs',c.ks⟩ ls' ti->K .none G):vE [.ref r] H K X:=by
 unfold vE;subst x;have R:=Z.S.rx;have a:=R.lb;have b:=R.la;rw[p]at b;rw[DI]at a;have m:fits ((refs ls').reverse++[O.ref i])=W:=by rw[←DI];exact N9 R.le
 refine fun1 (c6 (hO (u6 R.rd rfl) (hZ a) Ob (oI (MC a m) ?_)));have e:Sx H0 (H.set (r+2) (.lst (refs ls').reverse)) r s d Γ L ⟨c.body,labs',c.ks⟩ ls' ti:=Z.CR b.2 (by have:bw (i::ls') 1000=W:=R.le;exact c8 (by have:=c7 this;simp only[WB]at this;lia)) (VU.mp Z.S.nd).2 λj w=>Z.nw j (af9 _ w);exact(show ba _ _ _ _ _ from vA e f rfl (v:=[11]) (c9 (aj ax aC) rfl) λG _ Z=>h G Z)
theorem Sx.lab(Z:Sx H0 H r s d Γ L c ls ti)(m:c.a8=l::labs')(p:ls=i::ls'):Sx H0 (H.set i (fT l')) r s d Γ L ⟨c.body,l'::labs',c.ks⟩ ls ti:=by
 subst p;have R:=Z.S.rx;have e:=R.la;rw[m]at e;have nd:=VU.mp (show(i::(ls'++own ti)).Nodup from Z.S.nd);have hx:H[i]?=Y (fT l):=e.1;have f:gL (H.set i (fT l')) (i::ls') (l'::labs'):=⟨eS hx _,gL.st e.2 λj b q=>nd.1 (by rw[←q];exact acG _ b)⟩;have h:Rx (H.set i (fT l')) r s d Γ L c.ks (i::ls') (l'::labs') :=
  ⟨sn R.rd (fU hx R.rd (show(503:Nat)≠697 by decide)),R.sp.st (TL R.sp hx (by decide)),sn R.lo (fU hx R.lo (show(503:Nat)≠1 by decide)),sn R.lb (fU hx R.lb (show(503:Nat)≠0 by decide)),f,R.le,R.dd,R.rr⟩
 exact⟨⟨h,sn Z.S.bd (fU hx Z.S.bd (show(503:Nat)≠0 by decide)),sn Z.S.tk (fU hx Z.S.tk (show(503:Nat)≠0 by decide)),λx a=>(Z.S.ta x a).st λj b q=>nd.1 (by rw[←q];exact aau _ (Dc a b)),Z.S.nd⟩,Z.u.st (Z.no (Z.nw i (WL ..))) _,Z.h0,Z.nw⟩
def RF(l:dN)(ks:List Kd):List Itm->Ro (List Itm)
 | .tok u b a::t=>cond (eD u.1.sort) (cond (u.1.txt == l.name) (.ok t) (fz ks mq (.tok u b a))) (.ok (.tok u b a::t))
 |t=>.ok t
def RG(c:Co)(b:Nat)(w:OW)(e a:Nat)(t:List Itm):Ro (List Itm×Co):=ij (bw c.body 1000) (match c.a8 with
 | []=>cond (VH 0 b) (fz c.ks aq (.tok w e a)) .stuck
 |l::labs'=>cond (VH (labs'.length+1) b) (fz c.ks aq (.tok w e a)) ((RF l c.ks t).bind λt2 =>
   cond (w.1.txt == cA) (.ok (t2,⟨c.body++[[11]],labs',c.ks⟩)) (cond ((l.word == eG)&&bX l.pI) (.ok (t2,⟨c.body++[[5]],⟨l.name,l.word,l.tok,W⟩::labs',c.ks⟩)) (fz c.ks aq (.tok w e a)))))
def mw(H0:List MO)(is:List Itm)(r s d:Nat)(Γ:ct)(L:List (Str×Int))(ti:List (dc×Nat))(K:bp)(q:List Itm×Co)(G:List MO):Prop:=∀b a,Ps is b q.1->Sx H0 G r s d Γ L q.2 a ti->K (.int b) G
theorem NW(a b:Nat):((a:Int) == (b:Int))=VH a b:=by
 rw[NU];cases q:VH a b with
 |true=>exact ab8 (VW q)
 |false=>exact ahR (alq q)
theorem PR(R:Rx H r s d Γ L ks (i::ls') a8):aN az (.ref (r+2)) (.int (-1)) H=Y (.ref i):=by
 have a:=R.lb;rw[DI]at a;have b:=c7 R.le;have e:idx ((refs ls').reverse++[O.ref i]) (.int (-1))=Y (.ref i):=by
  show gd W ((ahS (-1) ((refs ls').reverse++[O.ref i]).length).bind λj=>((refs ls').reverse++[O.ref i])[j]?)=_;have f:((refs ls').reverse++[O.ref i]).length=(refs ls').reverse.length+1:=by rw[VK];rfl
  have s:ahS (-1) ((refs ls').reverse++[O.ref i]).length=Y (refs ls').reverse.length:=by
   rw[f];unfold ahS;have e:(if (-1:Int)< 0 then(-1:Int)+((refs ls').reverse.length+1:Nat) else(-1:Int))=((refs ls').reverse.length:Nat):=by rw[VY (by decide)];lia
   rw[e];dsimp only;rw[VY (by rw[VG,akm,akm];lia)];rfl
  rw[s];show((refs ls').reverse++[O.ref i])[(refs ls').reverse.length]?=_;rw[am2 (VJ _),aqG];rfl
 unfold aN;rw[kU a];show alt Sa (alt (idx ((refs ls').reverse++[O.ref i]) (.int (-1))) _)=_;rw[e];rfl
theorem agi(hi:H[i]?=Y (jl is kk f (Y b)))(p:Ps is k t)(Z:Sx H0 H r s d Γ L c ls ti)(h:cf H0 s Γ (mw H0 is r s d Γ L ti K) X (RG c b w r1 c1 t)):Bu [.ref r,.ref i,aH (.tok w r1 c1),.int k] H K X:=by
 unfold Bu;refine pS ?_;refine a9 h.gr λfb h=>?_;have R:=Z.S.rx;have ln:=R.la.len;have rf:∀{e:En}{B:SM}{Kf:KF},e[2]?=Y (Y (aH (.tok w r1 c1)))->cf H0 s Γ (mw H0 is r s d Γ L ti K) X (fz c.ks aq (.tok w r1 c1))->ak asp B e H Kf (λC fs _ H=>X C fs H):=λhe h=>c6 (cG (aj ax (aj (af he) aC)) (gU (h.rf Z.u Z.gY)));have bE:∀{e:En},e[1]?=Y (Y (.ref i))->Ev (aw ml [522] [] ay) e H (.int b):=λhe=>cu (af he) (eU hi rfl rfl) rfl;have lE:∀(e:En),e[0]?=Y (Y (.ref r))->Ev ash e H (.int ls.length):=λe he=>de (u6 R.rd he) (zc R);obtain⟨body,a8,ks⟩:=c;induction a8 using cL with
 |nil =>
  have ln:ls.length=0:=ln;have h:cf H0 s Γ (mw H0 is r s d Γ L ti K) X (cond (VH 0 b) (fz ks aq (.tok w r1 c1)) .stuck):=h;cases hb:VH 0 b with
  |false=>rw[hb]at h;exact h.elim
  |true =>
   rw[hb]at h;rw[ln]at lE;exact bM (bb (lE _ rfl) (bE rfl) (nD (by rw[NW];exact hb))) (c6 (cG (aj ax (aj (af rfl) aC)) (gU (h.rf Z.u Z.gY))))
 |cons l labs' =>
 induction ls using cL with
 |nil=>exact(R.la).elim
 |cons y D =>
  have ln:D.length+1=labs'.length+1:=ln;have hl:H[y]?=Y (fT l):=R.la.1;have h:cf H0 s Γ (mw H0 is r s d Γ L ti K) X (cond (VH (labs'.length+1) b) (fz ks aq (.tok w r1 c1)) ((RF l ks t).bind λt2 =>
   cond (w.1.txt == cA) (.ok (t2,⟨body++[[11]],labs',ks⟩)) (cond ((l.word == eG)&&bX l.pI) (.ok (t2,⟨body++[[5]],⟨l.name,l.word,l.tok,W⟩::labs',ks⟩)) (fz ks aq (.tok w r1 c1))))):=h
  have m:((((y::D).length:Nat):Int) == (b:Int))=VH (labs'.length+1) b:=by rw[NW];show VH (D.length+1) b=_;rw[ln]
  refine bc (b:=VH (labs'.length+1) b) (λhb=>?_) λhb=>?_
  .rw[hb]at h m;exact bM (bb (lE _ rfl) (bE rfl) (nD m)) (c6 (cG (aj ax (aj (af rfl) aC)) (gU (h.rf Z.u Z.gY))))
  rw[hb]at h m;refine bL (bb (lE _ rfl) (bE rfl) (nD m)) (dz (v:=.ref y) (bB (u6 R.rd rfl) (tY ax rfl) (PR R)) ?_);have iE:∀{e:En},e[1]?=Y (Y (.ref i))->Ev asf e H (.lst (aP is)):=λhe=>cu (af he) (eU hi rfl rfl) rfl;have x:∀(A:Nat) (t2:List Itm),Ps is A t2->cf H0 s Γ (mw H0 is r s d Γ L ti K) X (cond (w.1.txt == cA) (.ok (t2,⟨body++[[11]],labs',ks⟩)) (cond ((l.word == eG)&&bX l.pI) (.ok (t2,⟨body++[[5]],⟨l.name,l.word,l.tok,W⟩::labs',ks⟩)) (fz ks aq (.tok w r1 c1)))) ->
   (ak (aY asG
  arR
  (ak arA
  (ak (cW p4 [501] [] bq (aL (.bool W)))
  arZ)))
  (aV aW)) [Y (.ref r),Y (.ref i),Y (aH (.tok w r1 c1)),Y (.int A),Y (.ref y)] H (d6 K) (λC fs _ H=>X C fs H):=by
   intro A t2 p2 h;refine bc (b:=w.1.txt == cA) (λhe=>?_) λhe=>?_
   .rw[he]at h;exact bM (by walk_at "e") (c6 (dB (af rfl) (cV R.rd rfl) aC (M3 Z rfl rfl fb λG Z2=>cy (v:=.int A) (af rfl) (h G A D p2 Z2))))
   .rw[he]at h;refine zL (by walk_at "e") (fW ?_);have wE:Ev (aw gF [501] [] bq) [Y (.ref r),Y (.ref i),Y (aH (.tok w r1 c1)),Y (.int A),Y (.ref y)] H (.str l.word):=cu (af rfl) (eU hl rfl rfl) rfl;have eE:Ev (cq (aw p4 [501] [] bq)) [Y (.ref r),Y (.ref i),Y (aH (.tok w r1 c1)),Y (.int A),Y (.ref y)] H l.pI:=fP (cu (af rfl) (eU hl rfl rfl) rfl) rfl;have h:cf H0 s Γ (mw H0 is r s d Γ L ti K) X (cond ((l.word == eG)&&bX l.pI) (.ok (t2,⟨body++[[5]],⟨l.name,l.word,l.tok,W⟩::labs',ks⟩)) (fz ks aq (.tok w r1 c1))):=h;cases hw:l.word == eG with
    |false =>
     rw[hw]at h;exact bM (tX (bb wE ax (sW hw rfl))) (rf rfl h)
    |true =>
     rw[hw]at h;cases M:l.pI with
     |true =>
      rw[M]at h eE;exact bM (kH (bb wE ax (sW hw rfl)) (tX eE)) (rf rfl h)
     |false =>
      rw[M]at h eE;refine bL (kH (bb wE ax (sW hw rfl)) (kH eE (by walk_at "e"))) (fW (gW ax (af rfl) (oU hl rfl) ?_));have Z2:=Z.lab (l':=⟨l.name,l.word,l.tok,W⟩) rfl rfl;exact c6 (vA Z2 fb rfl (v:=[5]) (c9 (aj ax aC) rfl) λG _ Z3=>cy (v:=.int A) (af rfl) (h G A _ p2 Z3))
  have hx:=CN (H:=H) p (e:=[Y (.ref r),Y (.ref i),Y (aH (.tok w r1 c1)),Y (.int k),Y (.ref y)]) (a:=aw bY [230,355,522] [] ay) (b:=Loc 3) (iE rfl) (af rfl);induction t using cL with
  |nil=>exact bL (gQ (fP hx rfl)) (x k [] p h)
  |cons it t' =>
  induction it using Itm.casesOn with
  |br is2 Q I=>exact bL (gQ (fP hx rfl)) (x k _ p h)
  |tok u Q I =>
   have nx:Ev ark [Y (.ref r),Y (.ref i),Y (aH (.tok w r1 c1)),Y (.int k),Y (.ref y)] H (aH (.tok u Q I)):=bB (iE rfl) (af rfl) (lF p H);have h:cf H0 s Γ (mw H0 is r s d Γ L ti K) X ((cond (eD u.1.sort) (cond (u.1.txt == l.name) (.ok t') (fz ks mq (.tok u Q I))) (.ok (.tok u Q I::t'))).bind λt2=>cond (w.1.txt == cA) (.ok (t2,⟨body++[[11]],labs',ks⟩)) (cond ((l.word == eG)&&bX l.pI) (.ok (t2,⟨body++[[5]],⟨l.name,l.word,l.tok,W⟩::labs',ks⟩)) (fz ks aq (.tok w r1 c1)))):=h;have sE:Ev (aw eC [202] [] ark) [Y (.ref r),Y (.ref i),Y (aH (.tok w r1 c1)),Y (.int k),Y (.ref y)] H (.str u.1.sort.s):=cu nx AL rfl;have T:Ev (aw b9 [202] [] ark) [Y (.ref r),Y (.ref i),Y (aH (.tok w r1 c1)),Y (.int k),Y (.ref y)] H (.str u.1.txt):=cu nx AM rfl;have nE:Ev (aw kP [501] [] bq) [Y (.ref r),Y (.ref i),Y (aH (.tok w r1 c1)),Y (.int k),Y (.ref y)] H (.str l.name):=cu (af rfl) (eU hl rfl rfl) rfl;have hx:Ev _ _ _ (O.bool (xI u.1.sort)):=hx;refine bc (b:=eD u.1.sort) (λE=>?_) λE=>?_
   .rw[E]at h;have z:=ahP E;rw[z]at hx;refine bM (eY (fP hx rfl) (eY (bb sE ax (Jd E)) (by walk_at "e"))) (fW ?_);have h:cf H0 s Γ (mw H0 is r s d Γ L ti K) X ((cond (u.1.txt == l.name) (.ok t') (fz ks mq (.tok u Q I))).bind λt2=>cond (w.1.txt == cA) (.ok (t2,⟨body++[[11]],labs',ks⟩)) (cond ((l.word == eG)&&bX l.pI) (.ok (t2,⟨body++[[5]],⟨l.name,l.word,l.tok,W⟩::labs',ks⟩)) (fz ks aq (.tok w r1 c1)))):=h;refine bc (b:=u.1.txt == l.name) (λN=>?_) λN=>?_
    .rw[N]at h;exact bL (bb T nE (sW N rfl)) (dz (v:=.int (k+1:Nat)) (bB (af rfl) ax rfl) (x (k+1) t' p.nx h))
    .rw[N]at h;exact bM (bb T nE (sW N rfl)) (c6 (cG (aj ax (aj nx aC)) (gU (cf.rf (P:=mw H0 is r s d Γ L ti K) h Z.u Z.gY))))
   .rw[E]at h;cases z:xI u.1.sort with
    |false=>rw[z]at hx;exact bL (gQ (fP hx rfl)) (x k _ p h)
    |true=>rw[z]at hx;exact bL (eY (fP hx rfl) (gQ (bb sE ax (Jd E)))) (x k _ p h)
end
def zB(a:ct)(c:Co)(w:OW)(q:dN×List Itm):Ro (List Itm×Co):=o8 c.ks (EG a c.ks q.2) λu=>sR u.2.2.1 (ij (bw c.body 1000) (ij (bw c.a8 900) (ij (bX (kZ w.1.code)) (.ok (u.2.1,⟨c.body++[[(oN w.1.code:Int),u.1]],q.1::c.a8,u.2.2.1⟩))))) u.2.2.2
def Dg(f:ct)(L:List (Str×Int))(c:Co)(b:Nat)(w:OW)(e a:Nat)(t:List Itm):Ro (List Itm×Co) :=cond w.1.j6 (zB f c w (kW w e a t)) (cond w.1.p7 (RG c b w e a t) (o8 c.ks (iT f L c.a8 c.ks w e a t) λu=>sR u.2.2.1 (ij (bw c.body 1000) (.ok (u.2.1,⟨c.body++[u.1],c.a8,u.2.2.1⟩))) u.2.2.2))
section
variable{K:bp}{X:KX}{H0 H G:List MO}{is:List Itm}{k:Nat}{it:Itm}{t:List Itm}{i j r d s:Nat}{Γ:ct}{L:List (Str×Int)}{ks ks':List Kd}{q:Kd}{ls:List Nat}{a8:List dN}{c:Co}{ti:List (dc×Nat)}
theorem Rj(h:bX (kZ o)=W):oA o = .int (oN o):=by
 induction o with
 |none=>exact bD h
 |some n=>rfl
theorem za{a:Type}{P:a->List MO->Prop}{x:Ro a}(h:cf H0 s Γ P X (sR ks x l))(u:Up [s+2,s+3] H0 G)(k:cf H0 s Γ P X x->p):IG X s Γ ks G p l:=by
 cases l with
 |none=>exact k h
 |some l=>exactλS=>h G u S
theorem Sx.fresh(Z:Sx H0 H r s d Γ L c ls ti)(h:i∈ls++own ti):∃C fs,H[i]?=Y (.inst C fs):=by
 rcases aa1.mp h with h|h
 .refine VF (Z.S.rx.la.get h) λl e=>?_;exact⟨_,_,e⟩
 .have A:∀(a:List (dc×Nat)),(∀x,x∈a->gO H x)->i∈own a->∃C fs,H[i]?=Y (.inst C fs):=by
   intro a;induction a with
   |nil=>intro _ h;exact dw h
   |cons x a m =>
    intro b h;rcases aa1.mp (show i∈fV x++own a from h) with h|h
    .exact(b x (WL ..)).inst h
    .exact m (λy f=>b y (af9 _ f)) h
  exact A ti Z.S.ta h
theorem Sx.B2(Z:Sx H0 H r s d Γ L c ls ti):¬H.length∈ls++own ti:=λh=>by
 refine s6 (Z.fresh h) λC fs e=>?_;rw[iJ]at e;exact bN e
theorem agj(hw:nW w.1.sort=UA)(hi:H[i]?=Y (jl is k f (Y b)))(p:Ps is k (.tok w r1 c1::t))(Z:Sx H0 H r s d Γ L c ls ti)(h:cf H0 s Γ (mw H0 is r s d Γ L ti K) X (Dg Γ L c b w r1 c1 t)):ye [.ref r,.ref i,aH (.tok w r1 c1)] H K X:=by
 unfold ye;have R:=Z.S.rx;refine kM (oX (xs:=[.lst (aP is),.int (k+1:Nat)]) (c9 (aj (cu (af rfl) (eU hi rfl rfl) rfl) (aj (bB (cu (af rfl) (eU hi rfl rfl) rfl) ax rfl) aC)) rfl) rfl ?_);unfold Dg at h;have z:∀{e:En}{G:List MO},e[2]?=Y (Y (aH (.tok w r1 c1)))->Ev (aw b9 [202] [] aB) e G (.str w.1.txt):=λhe=>cu (af he) AM rfl;have A:=w.2.j6 hw (H:=H);refine bc (b:=w.1.j6) (λhb=>?_) λhb=>?_
 .rw[hb]at h A;refine bM (bb (z rfl) ax A) (fW (i6 (dB (af rfl) (cV R.rd rfl) (aj (af rfl) (aj (af rfl) (aj (af rfl) aC))) (IF p.nx λk1 p1=>?_))));refine oI (a:=[Y (.ref r),Y (.ref i),Y (aH (.tok w r1 c1)),Y (.lst (aP is)),Y (.int k1),Y (.ref H.length),Sa,Sa]) rfl ?_;have h:cf H0 s Γ (mw H0 is r s d Γ L ti K) X (zB Γ c w (kW w r1 c1 t)):=h;generalize kW w r1 c1 t=q at h p1 ⊢;obtain⟨l,t1⟩:=q;have m:=Z.le (Le.n H (fT l));have C:=ef H (fT l);have T:=Z.B2;have hr:=alw Z.lt;generalize H.length=li at C T hr ⊢;generalize H++[fT l]=H1 at m C ⊢;refine fW (i6 (dB (af rfl) (cV m.S.rx.rd rfl) (aj (af rfl) (aj (af rfl) aC)) (EI p1 m.S.rx.rd m.gY (h.xG m.u m.gY λq F e h=>za h (m.u.t e) λh y Q S2=>?_))));refine a9 h.gr λI h=>?_;refine a9 h.gr λfl h=>?_;refine a9 h.gr λfc h=>?_;refine oI (a:=[Y (.ref r),Y (.ref i),Y (aH (.tok w r1 c1)),Y (.lst (aP is)),Y (.int y),Y (.ref li),Y (.int q.1),Sa]) rfl ?_;have D:=m.up e S2;have N:F[li]?=Y (fT l):=e _ _ C (v7 m.gY C);have M:=Rj fc;refine fW (c6 (dB (af rfl) (cV D.S.rx.rd rfl) (aj (x:=.tup (iA [(oN w.1.code:Int),q.1])) (c9 (aj (hS (aj (z rfl) aC) λK X k=>ll (w.2.code hw) (by rw[M];exact k)) (aj (af rfl) aC)) rfl) (aj (af rfl) aC)) (Jk D N T hr I (c8 (by have:=c7 fl;have:=D.S.rx.la.len;simp only[WB]at *;lia)) λG E=>?_)));exact mN (v:=.int y) (af rfl) (h G y _ Q E)
 .rw[hb]at h A;refine bL (bb (z rfl) ax A) ?_;have B:=w.2.p7 hw (H:=H);have tp:∀{a b:O}{e:En},Ev (au [aL a,aL b]) e H (.tup [a,b]):=λK X k=>k;refine bc (b:=w.1.p7) (λhe=>?_) λhe=>?_
  .rw[he]at h B;exact bM (bb (z rfl) tp B) (qy (dB (af rfl) (cV R.rd rfl) (aj (af rfl) (aj (af rfl) (aj (af rfl) aC))) (agi hi p.nx Z h)))
  .rw[he]at h B;refine bL (bb (z rfl) tp B) (i6 (dB (af rfl) (cV R.rd rfl) (aj (af rfl) (aj (af rfl) (aj (af rfl) aC))) (P4 hw p.nx R (cf.xG (P:=mw H0 is r s d Γ L ti K) h Z.u Z.gY λq F e h=>za h (Z.u.t e) λh y Q S2=>?_))));refine a9 h.gr λI h=>?_;refine oI (a:=[Y (.ref r),Y (.ref i),Y (aH (.tok w r1 c1)),Y (.lst (aP is)),Y (.int y),Sa,Sa,Y (.tup (iA q.1))]) rfl ?_;exact c6 (vA (Z.up e S2) I rfl (v:=q.1) (af rfl) λG _ E=>cy (v:=.int y) (af rfl) (h G y _ Q E))
end
def gf:List Itm->Option (List Itm×Itm×List Itm)
 | []=>Sa
 |it::r=>cond (dQ it == iG) (Y ([],it,r)) ((gf r).map λq=>(it::q.1,q.2))
noncomputable def wU:Itm->dc | .br is _ _=>.run is (is.drop 1) UA Sa | .tok ..=>.cls
def BV(c:Co)(ks:List Kd)(a:Int)(l:dN)(q:List Itm×Itm×List Itm):Ro (Co×List dc) :=
 match q.2.2 with
 | []=>.ok (⟨c.body,c.a8,ks⟩,[.run q.1 q.1 W Sa,.jh [4,a] l,wU q.2.1,.cls])
 |e::rest=>cond (dQ e == gp) (match rest with | []=>.ok (⟨c.body,c.a8,ks⟩,[.run q.1 q.1 W Sa,.jh [4,a] l,wU q.2.1,.emit [5],wU e,.cls])|x::_=>fz ks aq x) (fz ks aq e)
def Ft(e:ct)(c:Co)(w:OW)(b a:Nat)(q:dN×List Itm):Ro (Co×List dc):=o8 c.ks (EG e c.ks q.2) λu=>sR u.2.2.1 (match gf u.2.1 with
 |none=>fz u.2.2.1 aq (.tok w b a)
 |some v=>BV c u.2.2.1 u.1 q.1 v) u.2.2.2
def Fq(e:ct)(L:List (Str×Int))(c:Co)(w:OW)(b a:Nat)(t:List Itm):Ro (Co×List dc) :=cond (w.1.txt == eG) (Ft e c w b a (kW w b a t)) (cond w.1.j6 ((zB e c w (kW w b a t)).bind λq=>.ok (q.2,[.run (.tok w b a::t) q.1 UA Sa,.cls])) (o8 c.ks (iT e L c.a8 c.ks w b a t) λu=>sR u.2.2.1 (.ok (⟨c.body,c.a8,u.2.2.1⟩,[.run (.tok w b a::t) u.2.1 W Sa,.emit u.1])) u.2.2.2))
def BS(a:ct)(L:List (Str×Int))(c:Co)(it:Itm):Ro (Co×List dc):=cond (dQ it == fj) (fz c.ks aq it) (match it with
 | .br (.tok w r1 c1::t) _ _=>ij (bX (nW w.1.sort)) (Fq a L c w r1 c1 t)
 |_=>.stuck)
section
variable{K:bp}{X:KX}{H0 H G:List MO}{is:List Itm}{k:Nat}{it:Itm}{t:List Itm}{i j r d s:Nat}{Γ:ct}{L:List (Str×Int)}{ks ks':List Kd}{q:Kd}{ls:List Nat}{a8:List dN}{c:Co}{ti:List (dc×Nat)}
theorem ait{a b e:Type}{x:Res a}{f:a->Ro b}{g:b->Ro e}:(o8 ks x f).bind g=o8 ks x λu=>(f u).bind g:=by cases x<;>rfl
theorem aeR{a b:Type}{x:Ro a}{g:a->Ro b}:(sR ks x l).bind g=sR ks (x.bind g) l:=by cases l<;>rfl
theorem FE{a e:Type}{x:Ro a}{g:a->Ro e}:(ij b x).bind g=ij b (x.bind g):=by cases b<;>rfl
theorem af3(x:dc×Nat):(fV x).Nodup:=by
 obtain⟨a,i⟩:=x;cases a with
 |run=>exact VU.mpr ⟨apH,al6⟩
 |jh=>exact VU.mpr ⟨apH,al6⟩
 |emit=>exact al6
 |cls=>exact al6
theorem QW(h:(ls++own ti).Nodup)(n:∀i,i∈fV x->¬i∈ls++own ti):(ls++own (x::ti)).Nodup:=by
 show(ls++(fV x++own ti)).Nodup;rw[ako]at h ⊢;refine⟨h.1,?_,?_⟩
 .rw[ako];exact⟨af3 x,h.2.1,λa f b hb e=>n a f (by rw[e];exact aau _ hb)⟩
 .intro a f b hb e;rcases aa1.mp hb with hb|hb
  .exact n b hb (by rw[←e];exact acG _ f)
  .exact h.2.2 a f b hb e
theorem Sx.push(Z:Sx H0 H r s d Γ L c ls ti)(hx:gO H x)(n:∀i,i∈fV x->¬i∈ls++own ti)(b:∀i,i∈fV x->r<=i):Sx H0 (H.set (r+3) (.lst ((x::ti).map tA).reverse)) r s d Γ L c ls (x::ti) :=
 Z.tasks (λy a=>by cases a with|head=>exact hx|tail _ a=>exact Z.S.ta y a) (QW Z.S.nd n) λi hi=>by
  rcases aa1.mp hi with hi|hi
  .exact Z.nw i (acG _ hi)
  .rcases aa1.mp (show i∈fV x++own ti from hi) with hi|hi
   .exact b i hi
   .exact Z.nw i (aau _ hi)
theorem ES(Z:Sx H0 H r s d Γ L c ls ti)(he:e[0]?=Y (Y (.ref r)))(f:bw ti 1000=W)(hx:gO H x)(n:∀i,i∈fV x->¬i∈ls++own ti)(l:∀i,i∈fV x->r<=i)(hm:Ev m e H (tA x))(h:∀G:List MO,(∀(i C:Nat) (fs:List (Str×O)),H[i]?=Y (MO.inst C fs)->G[i]?=Y (MO.inst C fs))->Sx H0 G r s d Γ L c ls (x::ti)->K .none G):aM aJ du [] (aw iw [695] [] ai) [m] e H K X:=by
 have b:fits (ti.map tA).reverse=W:=c8 (by rw[aeG,VO];have:=c7 f;lia);refine hO (DE Z.S.rx.rd he) (hZ Z.S.tk) kL (jX (xs:=[tA x]) (aj hm aC) (oI (lQ Z.S.tk b) ?_));have a:=Z.push hx n l;rw[WH,aeK]at a;exact h _ (λi C fs e=>sn e (fU Z.S.tk e (acb (akv _)))) a
theorem ET(Z:Sx H0 H r s d Γ L c ls ti)(he:e[0]?=Y (Y (.ref r)))(fl:bw ti 1000=W)(h1:Ev m1 e H (.lst (aP is)))(h2:Ev m2 e H (.int k))(p:Ps is k t)(h:∀(G:List MO) i,(∀(i C:Nat) (fs:List (Str×O)),H[i]?=Y (MO.inst C fs)->G[i]?=Y (MO.inst C fs))->Sx H0 G r s d Γ L c ls ((.run is t f Sa,i)::ti)->K .none G):aM aJ du [] (aw iw [695] [] ai) [aA jY [m1,m2,aL (.bool f)]] e H K X:=by
 refine hO (DE Z.S.rx.rd he) (hZ Z.S.tk) kL ?_;show aA jY _ _ _ _ _;refine cG (aj h1 (aj h2 (aj ax aC))) (SS ?_);have a:=Z.le (Le.n H (jl is k f Sa));have b:=ef H (jl is k f Sa);have w:=Z.B2;have y:=alw Z.lt;have l:∀(i C:Nat) (fs:List (Str×O)),H[i]?=Y (MO.inst C fs)->(H++[jl is k f Sa])[i]?=Y (MO.inst C fs):=λi C fs e=>(Le.n H _).g e;generalize H.length=z at b w y ⊢;generalize H++[jl is k f Sa]=H1 at a b l ⊢;have A:fits (ti.map tA).reverse=W:=c8 (by rw[aeG,VO];have:=c7 fl;lia);refine oI (lQ a.S.tk A) ?_;have m:=a.push (x:=(.run is t f Sa,z)) ⟨k,p,b⟩ (λi hi=>by cases hi with|head=>exact w|tail _ h=>exact dw h) (λi hi=>by cases hi with|head=>exact y|tail _ h=>exact dw h);rw[WH,aeK]at m;exact h _ z (λi C fs e=>sn (l i C fs e) (fU a.S.tk (l i C fs e) (acb (akv _)))) m
def kT(H0:List MO)(r s d:Nat)(Γ:ct)(L:List (Str×Int))(ti:List (dc×Nat))(K:bp)(q:Co×List dc)(G:List MO):Prop:=∀a b,b.map (·.1)=q.2->Sx H0 G r s d Γ L q.1 a (b++ti)->K .none G
def Ae(G:List MO)(r:Nat)(I:List Nat):Option (Nat×dN)->Prop
 |none=>True
 |some (li,l)=>G[li]?=Y (fT l)/\¬li∈I/\r<=li
structure La (H0 G:List MO) (r s d:Nat) (Γ:ct) (L:List (Str×Int)) (c:Co) (ls:List Nat) (ti:List (dc×Nat)) (o:Option (Nat×dN)) (k8:Nat) (lt:List (dc×Nat)):Prop where
 Z:Sx H0 G r s d Γ L c ls ti
 k:G[k8]?=Y (.lst (lt.map tA).reverse)
 b:r+3 < k8
 ta:∀x,x∈lt->gO G x
 nd:(ls++own (lt++ti)).Nodup
 nw:∀i,i∈own lt->r<=i
 fr:Ae G r (ls++own (lt++ti)) o
 f:lt.length<=10
theorem RB:∀a b:List (dc×Nat),own (a++b)=own a++own b:=by
 intro a;induction a with
 |nil=>exactλ_=>rfl
 |cons x a e=>exactλb=>by show fV x++own (a++b)=(fV x++own a)++own b;rw[e b,akn]
theorem Sx.cz(Z:Sx H0 H r s d Γ L c ls ti)(hx:H[x]?=Y (.lst l))(b:r+3 < x):Sx H0 (H.set x m) r s d Γ L c ls ti :=
 have:=Z.S.rx.rr
 ⟨⟨Z.S.rx.lst hx (by lia) (by lia),sn Z.S.bd (by lia),sn Z.S.tk (by lia),λy a=>w6 (Z.S.ta y a) hx,Z.S.nd⟩,Z.u.st (Z.no (by lia)) _,Z.h0,Z.nw⟩
section
variable{k8:Nat}{o:Option (Nat×dN)}{lt:List (dc×Nat)}
theorem Ae.le(A:Ae H r I o)(e:Le H G):Ae G r I o:=by
 cases o with
 |none=>trivial
 |some x=>exact⟨e.g A.1,A.2⟩
theorem La.le(A:La H0 H r s d Γ L c ls ti o k8 lt)(e:Le H G):La H0 G r s d Γ L c ls ti o k8 lt:=⟨A.Z.le e,e.g A.k,A.b,λx hx=>(A.ta x hx).up e λ_ _ _ _=>rfl,A.nd,A.nw,A.fr.le e,A.f⟩
theorem La.inst(A:La H0 H r s d Γ L c ls ti o k8 lt)(h:i∈ls++own (lt++ti)):∃C fs,H[i]?=Y (.inst C fs):=by
 rw[RB]at h;rcases aa1.mp h with h|h
 .exact A.Z.fresh (acG _ h)
 .rcases aa1.mp h with h|h
  .have B:∀(a:List (dc×Nat)),(∀x,x∈a->gO H x)->i∈own a->∃C fs,H[i]?=Y (.inst C fs):=by
    intro a;induction a with
    |nil=>intro _ h;exact dw h
    |cons x a f =>
     intro b h;rcases aa1.mp (show i∈fV x++own a from h) with h|h
     .exact(b x (WL ..)).inst h
     .exact f (λy e=>b y (af9 _ e)) h
   exact B lt A.ta h
  .exact A.Z.fresh (aau _ h)
theorem La.add(A:La H0 H r s d Γ L c ls ti o k8 lt)(hx:gO H x)(n:∀i,i∈fV x->¬i∈ls++own (lt++ti))(p:∀i,i∈fV x->r<=i)(m:lt.length<=9):(∀i,i∈fV x->∀a l,o=Y (a,l)->i≠a)->La H0 (H.set k8 (.lst ((x::lt).map tA).reverse)) r s d Γ L c ls ti o k8 (x::lt):=λe =>
 ⟨A.Z.cz A.k A.b,eS A.k _,A.b,λy f=>w6 (by cases f with|head=>exact hx|tail _ f=>exact A.ta y f) A.k,QW A.nd n,λi hi=>by
  rcases aa1.mp (show i∈fV x++own lt from hi) with hi|hi
  .exact p i hi
  .exact A.nw i hi,by
  have fr:=A.fr;cases o with
  |none=>trivial
  |some y =>
   obtain⟨a,l⟩:=y;refine⟨sn fr.1 (fU A.k fr.1 (show(0:Nat)≠503 by decide)),λh=>?_,fr.2.2⟩;rcases aa1.mp h with h|h
   .exact fr.2.1 (acG _ h)
   .rcases aa1.mp (show a∈fV x++own (lt++ti) from h) with h|h
    .exact e a h a l rfl rfl
    .exact fr.2.1 (aau _ h),akL m⟩
theorem La.fits(A:La H0 H r s d Γ L c ls ti o k8 lt):fits (lt.map tA).reverse=W:=c8 (by rw[aeG,VO];have:=A.f;lia)
theorem aaL(A:La H0 H r s d Γ L c ls ti o k8 lt)(f:e[8]?=Y (Y (.ref k8)))(a:fV x=[])(hx:gO H x)(l:lt.length<=9)(hm:Ev m e H (tA x))(h:∀G,La H0 G r s d Γ L c ls ti o k8 (x::lt)->K .none G):aM aJ du [] hU [m] e H K X:=by
 refine hO (af f) (hZ A.k) kL (jX (xs:=[tA x]) (aj hm aC) (oI (lQ A.k A.fits) ?_));have b:=A.add hx (λi hi=>by rw[a]at hi;exact dw hi) (λi hi=>by rw[a]at hi;exact dw hi) l (λi hi=>by rw[a]at hi;exact dw hi);rw[WH,aeK]at b;exact h _ b
theorem aaN(A:La H0 H r s d Γ L c ls ti (Y (li,l)) k8 lt)(p:e[8]?=Y (Y (.ref k8)))(w:lt.length<=9)(hm:Ev m e H (tA (.jh v l,li)))(h:∀G,La H0 G r s d Γ L c ls ti Sa k8 ((.jh v l,li)::lt)->K .none G):aM aJ du [] hU [m] e H K X:=by
 refine hO (af p) (hZ A.k) kL (jX (xs:=[tA (.jh v l,li)]) (aj hm aC) (oI (lQ A.k A.fits) ?_));have B:La H0 H r s d Γ L c ls ti Sa k8 lt:=⟨A.Z,A.k,A.b,A.ta,A.nd,A.nw,trivial,A.f⟩;have a:=B.add (x:=(.jh v l,li)) A.fr.1 (λi hi=>by cases hi with|head=>exact A.fr.2.1|tail _ h=>exact dw h) (λi hi=>by cases hi with|head=>exact A.fr.2.2|tail _ h=>exact dw h) w (λ_ _ _ _ e=>by exact bN e);rw[WH,aeK]at a;exact h _ a
theorem EP(A:La H0 H r s d Γ L c ls ti o k8 lt)(B:e[8]?=Y (Y (.ref k8)))(D:lt.length<=9)(h1:Ev m1 e H (.lst (aP is)))(h2:Ev m2 e H (.int k))(p:Ps is k t)(h:∀G i,La H0 G r s d Γ L c ls ti o k8 ((.run is t f Sa,i)::lt)->K .none G):aM aJ du [] hU [aA jY [m1,m2,aL (.bool f)]] e H K X:=by
 refine hO (af B) (hZ A.k) kL ?_;show aA jY _ _ _ _ _;refine cG (aj h1 (aj h2 (aj ax aC))) (SS ?_);have b:=A.le (Le.n H (jl is k f Sa));have m:=ef H (jl is k f Sa);have eZ:¬H.length∈ls++own (lt++ti):=λh=>by refine s6 (A.inst h) λC fs e=>?_;rw[iJ]at e;exact bN e
 have a:∀li l,o=Y (li,l)->H.length≠li:=λli l e q=>by subst e;have:=A.fr.1;rw[←q,iJ]at this;exact bN this
 have y:=alw A.Z.lt;generalize H.length=z at m eZ y a ⊢;generalize H++[jl is k f Sa]=H1 at b m ⊢;refine oI (lQ b.k b.fits) ?_;have w:=b.add (x:=(.run is t f Sa,z)) ⟨k,p,m⟩ (λi hi=>by cases hi with|head=>exact eZ|tail _ h=>exact dw h) (λi hi=>by cases hi with|head=>exact y|tail _ h=>exact dw h) D (λi hi=>by cases hi with|head=>exact a|tail _ h=>exact dw h);rw[WH,aeK]at w;exact h _ z w
theorem aaM(A:La H0 H r s d Γ L c ls ti o k8 lt)(b:e[0]?=Y (Y (.ref r)))(l:e[8]?=Y (Y (.ref k8)))(fl:bw ti 1000=W)(h:∀G,Sx H0 G r s d Γ L c ls (lt++ti)->K .none G):aM aJ qu [] (aw iw [695] [] ai) [hU] e H K X:=by
 have Z:=A.Z;have e1:((lt++ti).map tA).reverse=(ti.map tA).reverse++(lt.map tA).reverse:=by rw[akG,List.reverse_append]
 have a:fits ((ti.map tA).reverse++(lt.map tA).reverse)=W:=c8 (by rw[VK,aeG,aeG,VO,VO];have:=c7 fl;have:=A.f;lia);refine hO (DE Z.S.rx.rd b) (hZ Z.S.tk) yt (jX (xs:=[.ref k8]) (aj (af l) aC) (oI (xH Z.S.tk (kU A.k) a) ?_));rw[←e1];exact h _ (Z.tasks (λx hx=>by rcases aa1.mp hx with hx|hx;exact A.ta x hx;exact Z.S.ta x hx) A.nd λi hi=>by
  rw[RB]at hi;rcases aa1.mp hi with hi|hi
  .exact Z.nw i (acG _ hi)
  .rcases aa1.mp hi with hi|hi
   .exact A.nw i hi
   .exact Z.nw i (aau _ hi))
end
end
section
variable{K:bp}{X:KX}{H0 H G:List MO}{is:List Itm}{k:Nat}{it:Itm}{t:List Itm}{i j r d s:Nat}{Γ:ct}{L:List (Str×Int)}{ks ks':List Kd}{q:Kd}{ls:List Nat}{a8:List dN}{c:Co}{ti:List (dc×Nat)}
theorem ahG(p:Ps is a (pre++t'))(hb:b=a+pre.length)(H:List MO):mF (.lst (aP is)) (Y (a:Int)) (Y (b:Int)) Sa H=Y (.lst (aP pre)):=by
 have e:b<=is.length:=by rw[p.len,VK,hb];exact ak5 (akx _ _) _
 show alt Sa (alt (gd (bX UA&&fits (aP is)) (Y (O.lst (oS (aP is) (Y (a:Int)) (Y (b:Int)) Sa)))) _)=_;rw[Fu p.s,agd _ (hb▸akx _ _) (by rw[lX];exact e),NN,p.d,ab7,hb,anK,List.take_left];rfl
theorem TC:∀{a b:List Itm},jm (a++b)=W->jm a=W
 | [],_,_=>rfl
 |x::a,b,h=>by
  have h:(gX x&&jm (a++b))=W:=h;rw[VG]at h;show(gX x&&jm a)=W;rw[h.1,TC h.2];rfl
theorem TF:∀{n:Nat}{a:List Itm},jm a=W->jm (a.drop n)=W
 |0,_,h=>h
 |_+1,[],_=>rfl
 |n+1,x::a,h=>by
  have h:(gX x&&jm a)=W:=h;rw[VG]at h;exact TF (n:=n) h.2
theorem aaO{as:List (EM O)}(a:jr as e H xs)(f:fits xs=W)(h:K (.ref H.length) (H++[.lst xs])):gj as e H K X:=a _ _ (bI f h)
theorem Ps.pre{a:Nat}{pre b:List Itm}(p:Ps is a (pre++b)):Ps pre 0 pre:=⟨rfl,akQ _,VR (by rw[p.len,VK];exact VR (akx _ _) (amB _ _)) p.s,by have:=TF (n:=a) p.m;rw[p.d]at this;exact TC this⟩
theorem Ue{q:Str}(hq:(fj == q)=UA)(h:(dQ it == q)=W)(sm:gX it=W):∃a f e,it = .br a f e/\Ps a 1 (a.drop 1):=by
 refine De (MI h hq) λl a f e b=>?_;subst b;exact⟨_,_,_,rfl,(Ps.of sm).nx⟩
theorem acN{C:SM}{K:KF}{X:KE}{m p x3 w x y x8:Option O}{e:Nat}{F:List MO}{t2:List Itm}(D:Ps is e t2)(N:gf t2=Sa->∀M,Ps is M []->C [m,p,Y (.lst (aP is)),x3,w,x,Y (.int M),y,x8] F K X)(h1:∀pre it a,gf t2=Y (pre,it,a)->(dQ it == iG)=W->Ps is (e+pre.length) (it::a)->t2=pre++it::a->C [m,p,Y (.lst (aP is)),x3,w,x,Y (.int (e+pre.length:Nat)),y,x8] F K X): ak (gm arI (bA 6 (ao aX bZ (ah 1)))) C [m,p,Y (.lst (aP is)),x3,w,x,Y (.int e),y,x8] F K X:=by
 show gm _ _ _ _ _ _;refine ve (λt=>t.length) (λ(l:List Itm) e' G=>∃pre:List Itm,e'=[m,p,Y (.lst (aP is)),x3,w,x,Y (.int (e+pre.length:Nat)),y,x8]/\G=F/\Ps is (e+pre.length) l/\t2=pre++l/\gf t2=(gf l).map λq=>(pre++q.1,q.2)) ?_ t2 (by have:=D.len;have:=D.s;show t2.length < 3000;omega) ⟨[],rfl,rfl,D,rfl,by cases gf t2<;>rfl⟩;intro l e' G go B E;obtain⟨pre,z,A,h,I,f⟩:=E;subst z;subst A;cases l with
 |nil=>exact(show Ev _ _ _ UA by walk_at "e") _ _ (cF rfl (N f _ h))
 |cons it a =>
  have hx:Ev (ao (aN az) aB bZ) [m,p,Y (.lst (aP is)),x3,w,x,Y (.int (e+pre.length:Nat)),y,x8] G (aH it):=bB (af rfl) (af rfl) (lF h G);have hh:=oa h.sm hx;refine bc (b:=dQ it == iG) (λhq=>?_) λhq=>?_
  .have es:gf (it::a)=Y ([],it,a):=by show cond _ _ _=_;rw[hq];rfl
   rw[es]at f;have f:gf t2=Y (pre++[],it,a):=f;rw[af1]at f;exact(show Ev _ _ _ UA from eY (by walk_at "e") (gQ (bb hh ax (sW hq rfl)))) _ _ (cF rfl (h1 pre it a f hq h I))
  .have es:gf (it::a)=(gf a).map λq=>(it::q.1,q.2):=by show cond _ _ _=_;rw[hq];rfl
   refine(show Ev _ _ _ W from eY (by walk_at "e") (eY (bb hh ax (sW hq rfl)) (by walk_at "e"))) _ _ (cT rfl ?_);refine(show Ev (ao aX bZ (ah 1)) _ _ (O.int (e+pre.length+1:Nat)) from bB (af rfl) ax rfl) _ _ ?_;have el:e+(pre++[it]).length=e+pre.length+1:=by rw[VK];rfl
   refine B a _ _ (af5 _) ⟨pre++[it],by rw[el];rfl,rfl,by rw[el];exact h.nx,by rw[I,akn];rfl,?_⟩;rw[f,es,aqc];have:(λq:List Itm×Itm×List Itm=>(pre++q.1,q.2))∘(λq:List Itm×Itm×List Itm=>(it::q.1,q.2))=λq:List Itm×Itm×List Itm=>(pre++[it]++q.1,q.2):=by funext q;show(pre++it::q.1,q.2)=_;rw[akn];rfl
   rw[this]
theorem ac6(hw:nW w.1.sort=UA)(p:Ps is 1 t)(Z:Sx H0 H r s d Γ L c ls ti)(fl:bw ti 1000=W)(h:cf H0 s Γ (kT H0 r s d Γ L ti K) X (Ft Γ c w r1 c1 (kW w r1 c1 t))):Bo [.ref r,aH (.tok w r1 c1),.lst (aP is)] H K X:=by
 unfold Bo;refine kM (i6 (dB (af rfl) (cV Z.S.rx.rd rfl) (aj (af rfl) (aj (af rfl) (aj ax aC))) (IF (k:=1) p λk1 p1=>?_)));refine oI (a:=[Y (.ref r),Y (aH (.tok w r1 c1)),Y (.lst (aP is)),Y (.ref H.length),Y (.int k1),Sa,Sa,Sa,Sa]) rfl ?_;generalize kW w r1 c1 t=q at h p1 ⊢;obtain⟨l,t1⟩:=q;have E:=Z.le (Le.n H (fT l));have hl:=ef H (fT l);have hf:=Z.B2;have hr:=alw Z.lt;generalize H.length=N at hl hf hr ⊢;generalize H++[fT l]=H1 at E hl ⊢;unfold Ft at h;refine i6 (dB (af rfl) (cV E.S.rx.rd rfl) (aj (af rfl) (aj (af rfl) aC)) (EI p1 E.S.rx.rd E.gY (h.xG E.u E.gY λq F e h=>za h (E.u.t e) λh B Q S2=>?_)));obtain⟨f,t2,y,late⟩:=q;refine oI (a:=[Y (.ref r),Y (aH (.tok w r1 c1)),Y (.lst (aP is)),Y (.ref N),Y (.int B),Y (.int f),Sa,Sa,Sa]) rfl ?_;have T:=E.up e S2;have hl2:F[N]?=Y (fT l):=e _ _ hl (v7 E.gY hl);have Q:Ps is B t2:=Q;refine dz (af rfl) ?_;refine acN Q (λhs k0 p0=>?_) λpre it t3 hs hq z ht=>?_
 .have h:cf H0 s Γ (kT H0 r s d Γ L ti K) X (match gf t2 with|none=>fz y aq (.tok w r1 c1)|some v=>BV c y f l v):=h;rw[hs]at h;have I:bf (.int (k0:Int)) (.int is.length) F=Y W:=nD (by rw[←p0.eq];exact ah6 _);exact bM (bb (af rfl) (de (af rfl) (j9 p0 F)) I) (c6 (cG (aj ax (aj (af rfl) aC)) (gU (cf.rf (P:=kT H0 r s d Γ L ti K) h T.u T.gY))))
 have h:cf H0 s Γ (kT H0 r s d Γ L ti K) X (match gf t2 with|none=>fz y aq (.tok w r1 c1)|some v=>BV c y f l v):=h;rw[hs]at h;have h:cf H0 s Γ (kT H0 r s d Γ L ti K) X (BV c y f l (pre,it,t3)):=h;rw[ht]at Q;have I:bf (.int ((B+pre.length:Nat):Int)) (.int is.length) F=Y UA:=nD (VQ.mpr (by have:=z.lt;omega));refine bL (bb (af rfl) (de (af rfl) (j9 z F)) I) (dz (v:=.int (B+pre.length+1:Nat)) (bB (af rfl) ax rfl) (fo (aaO (xs:=[.tup [.str qr,.none]]) (aj (c9 (aj ax (aj ax aC)) rfl) aC) rfl ?_)));refine RC (Ue rfl hq z.sm) λM r2 c2 ei pt=>?_;subst ei;have hk8:=ef F (.lst [.tup [.str qr,.none]]);have A:La H0 (F++[.lst [.tup [.str qr,.none]]]) r s d Γ L ⟨c.body,c.a8,y⟩ ls ti (Y (N,l)) F.length [(.cls,0)] :=
  ⟨T.le (Le.n F _),hk8,(WC.mp T.S.tk).1,λx hx=>(by cases hx with|head=>trivial|tail _ h=>exact dw h),T.S.nd,λi hi=>(by exact dw hi),⟨(Le.n F _).g hl2,hf,hr⟩,(by show 1<=10;decide)⟩
 generalize F.length=k8 at A ⊢;generalize F++[MO.lst [.tup [.str qr,.none]]]=F at A ⊢;have xE:∀{x7:Option O}{F:List MO},Ev (ao (aN az) aB bZ) [Y (.ref r),Y (aH (.tok w r1 c1)),Y (.lst (aP is)),Y (.ref N),Y (.int B),Y (.int f),Y (.int (B+pre.length:Nat)),x7,Y (.ref k8)] F (aH (.br M r2 c2)):=bB (af rfl) (af rfl) (lF z _);have fin:∀{x7:Option O}{F:List MO}{lt:List (dc×Nat)},lt.length<=3->La H0 F r s d Γ L ⟨c.body,c.a8,y⟩ ls ti (Y (N,l)) k8 lt->cf H0 s Γ (kT H0 r s d Γ L ti K) X (.ok (⟨c.body,c.a8,y⟩,[.run pre pre W Sa,.jh [4,f] l,wU (.br M r2 c2)]++lt.map (·.1))) ->
   (ak (ba (aM aJ du [] hU [aA jY [asv,ah 1,aL (.bool UA)]]))
(ak arO
(ak (ba (aM aJ du [] hU [aA jY [fB aB bq bZ (aL .none),ah 0,aL (.bool W)]]))
asu))) [Y (.ref r),Y (aH (.tok w r1 c1)),Y (.lst (aP is)),Y (.ref N),Y (.int B),Y (.int f),Y (.int (B+pre.length:Nat)),x7,Y (.ref k8)] F (d6 K) (λC fs _ H=>X C fs H):=by
  intro x7 F lt m A h;refine c6 (EP A rfl (by omega) (cu xE vq rfl) (show Ev (ah 1) _ _ (.int (1:Nat)) from ax) pt λG i1 A=>?_);refine c6 (aaN A rfl (by simp only[WB];omega) (v:=[4,f]) (c9 (aj ax (aj (c9 (aj (c9 (aj ax (aj (af rfl) aC)) rfl) (aj (af rfl) aC)) rfl) aC)) rfl) λG A=>?_);refine c6 (EP A rfl (by simp only[WB];omega) (qW (af rfl) (af rfl) (af rfl) ax rfl rfl rfl (ahG Q rfl G)) (show Ev (ah 0) _ _ (.int (0:Nat)) from ax) Q.pre λG i2 A=>?_);exact(show ba _ _ _ _ _ from aaM A rfl rfl fl λG Z=>h G ls _ rfl Z)
 cases t3 with
 |nil =>
  have m:eL (.int ((B+pre.length+1:Nat):Int)) (.int is.length) F=Y UA:=lH (Js z.nx);refine bL (gQ (bb (af rfl) (de (af rfl) (j9 z F)) m)) (bL (bb (af rfl) (de (af rfl) (j9 z F)) m) (fin (by show 1<=3;decide) A h))
 |cons e2 t4 =>
  have m:∀F,eL (.int ((B+pre.length+1:Nat):Int)) (.int is.length) F=Y W:=λF=>lH (Jr z.nx);have eE:∀{F:List MO},Ev (ao (aN az) aB eV) [Y (.ref r),Y (aH (.tok w r1 c1)),Y (.lst (aP is)),Y (.ref N),Y (.int B),Y (.int f),Y (.int (B+pre.length:Nat)),Y (.int (B+pre.length+1:Nat)),Y (.ref k8)] F (aH e2):=bB (af rfl) (af rfl) (lF z.nx _);have he:=oa (H:=F) z.nx.sm eE;have h:cf H0 s Γ (kT H0 r s d Γ L ti K) X (cond (dQ e2 == gp) (match (generalizing:=false) t4 with | []=>.ok (⟨c.body,c.a8,y⟩,[.run pre pre W Sa,.jh [4,f] l,wU (.br M r2 c2),.emit [5],wU e2,.cls])|x::_=>fz y aq x) (fz y aq e2)):=h;refine bc (b:=dQ e2 == gp) (λD=>?_) λD=>?_
  .rw[D]at h;refine RC (Ue rfl D z.nx.sm) λis3 r3 c3 zr_0 pe=>?_;subst zr_0;refine bM (eY (bb (af rfl) (de (af rfl) (j9 z F)) (m F)) (eY (bb he ax (sV D)) (by walk_at "e"))) (fW (c6 (EP A rfl (by show 1<=9;decide) (cu eE vq rfl) (show Ev (ah 1) _ _ (.int (1:Nat)) from ax) pe λG i1 A=>?_)));refine fW (c6 (aaL A rfl (x:=(.emit [5],0)) rfl trivial (by show 2<=9;decide) (c9 (aj ax (aj (c9 (aj ax aC) rfl) aC)) rfl) λG A=>?_));refine dz (v:=.int (B+pre.length+1+1:Nat)) (bB (af rfl) ax rfl) ?_;cases t4 with
   |nil =>
    have m:eL (.int ((B+pre.length+1+1:Nat):Int)) (.int is.length) G=Y UA:=lH (Js z.nx.nx);exact bL (bb (af rfl) (de (af rfl) (j9 z G)) m) (fin (by show 3<=3;decide) A h)
   |cons x t5 =>
    have m:eL (.int ((B+pre.length+1+1:Nat):Int)) (.int is.length) G=Y W:=lH (Jr z.nx.nx);refine bM (bb (af rfl) (de (af rfl) (j9 z G)) m) (c6 (cG (aj ax (aj (bB (af rfl) (af rfl) (lF z.nx.nx G)) aC)) (gU (cf.rf (P:=kT H0 r s d Γ L ti K) h A.Z.u A.Z.gY))))
  .rw[D]at h;refine bL (eY (bb (af rfl) (de (af rfl) (j9 z F)) (m F)) (gQ (bb he ax (sV D)))) (bM (bb (af rfl) (de (af rfl) (j9 z F)) (m F)) (c6 (cG (aj ax (aj eE aC)) (gU (cf.rf (P:=kT H0 r s d Γ L ti K) h A.Z.u A.Z.gY)))))
end
noncomputable def Rk(b:Option Nat)(n:Nat):Nat:=match b with|some b=>b|none=>n
def DK(j:ct)(L:List (Str×Int))(c:Co)(ts:List dc)(is t:List Itm)(f:Bool)(b:Nat):Ro (Co×List dc):=match t with
 | []=>cond (aca b c.a8.length) (match c.a8 with|l::_=>fz c.ks aq l.tok | []=>.stuck) (.ok (c,ts))
 | .br h e a::i=>ij (bw ts 900) ((BS j L c (.br h e a)).bind λq=>.ok (q.1,q.2++(.run is i f (Y b)::ts)))
 | .tok w e a::i=>ij (bw ts 900) (cond (f||nW w.1.sort) (fz c.ks aq (.tok w e a)) ((Dg j L c b w e a i).bind λq=>.ok (q.2,.run is q.1 f (Y b)::ts)))
section
variable{K:bp}{X:KX}{H0 H G:List MO}{is:List Itm}{k:Nat}{it:Itm}{t:List Itm}{i j r d s:Nat}{Γ:ct}{L:List (Str×Int)}{ks ks':List Kd}{q:Kd}{ls:List Nat}{a8:List dN}{c:Co}{ti:List (dc×Nat)}
theorem cf.imp{a e:Type}{x:Ro a}{f:a->Ro e}{P:e->List MO->Prop}{b:a->List MO->Prop}(h:cf H0 s Γ P X (x.bind f))(k:∀v G,cf H0 s Γ P X (f v)->b v G):cf H0 s Γ b X x:=by
 cases x with
 |stuck=>exact h
 |ok v=>exactλG=>k v G h
 |bad w r c ks=>exact h
 |left w r ks=>exact h
theorem ac7(sm:gX it=W)(Z:Sx H0 H r s d Γ L c ls ti)(fl:bw ti 950=W)(h:cf H0 s Γ (kT H0 r s d Γ L ti K) X (BS Γ L c it))(hb:Ip it=W):yb [.ref r,aH it] H K X:=by
 unfold yb;have R:=Z.S.rx;have C:∀{x:dc×Nat},bw (x::ti) 1000=W:=c8 (by have:=c7 fl;simp only[WB];lia);have z:bw ti 1000=W:=c8 (by have:=c7 fl;lia);refine fun2 (dz (oa sm (af rfl)) ?_);unfold BS at h;refine bc (b:=dQ it == fj) (λhz=>?_) λhz=>?_
 .rw[hz]at h;exact bM (by walk_at "e") (c6 (cG (aj ax (aj (af rfl) aC)) (gU (cf.rf (P:=kT H0 r s d Γ L ti K) h Z.u Z.gY))))
 rw[hz]at h;refine bL (by walk_at "e") ?_;cases it with
 |tok=>exact bD hb
 |br Q D B=>cases Q with
 |nil=>exact h.elim
 |cons a t=>cases a with
  |br=>exact h.elim
  |tok w m f =>
  have h:cf H0 s Γ (kT H0 r s d Γ L ti K) X (ij (bX (nW w.1.sort)) (Fq Γ L c w m f t)):=h;refine a9 h.gr λhw h=>?_;have hw:nW w.1.sort=UA:=by cases q:nW w.1.sort with|false=>rfl|true=>rw[q]at hw;exact bD hw
  have eh:dQ (.br (.tok w m f::t) D B)=w.1.txt:=by show cond _ _ _=_;rw[hw];rfl
  rw[eh];have p:=Ps.of sm;have CM:Ev ar9 [Y (.ref r),Y (aH (.br (.tok w m f::t) D B)),Y (.str w.1.txt),Sa,Sa,Sa,Sa,Sa,Sa] H (aH (.tok w m f)):=bB (cu (af rfl) vq rfl) ax (lF (k:=0) p H);refine oX (xs:=[aH (.tok w m f),.lst (aP (.tok w m f::t))]) (c9 (aj CM (aj (cu (af rfl) vq rfl) aC)) rfl) rfl ?_;unfold Fq at h;refine bc (b:=w.1.txt == eG) (λhi=>?_) λhi=>?_
  .rw[hi]at h;exact lC (by walk_at "e") (show ba _ _ _ _ _ from dB (af rfl) (cV R.rd rfl) (aj (af rfl) (aj (af rfl) aC)) (ac6 hw p.nx Z z h))
  rw[hi]at h;refine jH (by walk_at "e") ?_;have E:=w.2.j6 hw (H:=H);refine bc (b:=w.1.j6) (λhb=>?_) λhb=>?_
  .rw[hb]at h E;refine lC (bb (af rfl) ax E) (i6 (dB (af rfl) (cV R.rd rfl) (aj (af rfl) (aj (af rfl) (aj ax aC))) (IF (k:=1) p.nx λk1 p1=>?_)));refine oI (a:=[Y (.ref r),Y (aH (.br (.tok w m f::t) D B)),Y (.str w.1.txt),Y (aH (.tok w m f)),Y (.lst (aP (.tok w m f::t))),Y (.ref H.length),Y (.int k1),Sa,Sa]) rfl ?_;have h:cf H0 s Γ (kT H0 r s d Γ L ti K) X ((zB Γ c w (kW w m f t)).bind λq=>.ok (q.2,[.run (.tok w m f::t) q.1 UA Sa,.cls])):=h;generalize kW w m f t=q at h p1 ⊢;obtain⟨l,t1⟩:=q;unfold zB at h;rw[ait]at h;have y:=Z.le (Le.n H (fT l));have I:=ef H (fT l);have hf:=Z.B2;have hr:=alw Z.lt;generalize H.length=li at I hf hr ⊢;generalize H++[fT l]=H1 at y I ⊢;refine i6 (dB (af rfl) (cV y.S.rx.rd rfl) (aj (af rfl) (aj (af rfl) aC)) (EI p1 y.S.rx.rd y.gY (h.xG y.u y.gY λq F e h=>?_)));rw[aeR]at h;refine za h (y.u.t e) λh k2 p2 S2=>?_;rw[FE,FE,FE]at h;refine a9 h.gr λfb h=>?_;refine a9 h.gr λfl h=>?_;refine a9 h.gr λfc h=>?_;refine oI (a:=[Y (.ref r),Y (aH (.br (.tok w m f::t) D B)),Y (.str w.1.txt),Y (aH (.tok w m f)),Y (.lst (aP (.tok w m f::t))),Y (.ref li),Y (.int k2),Y (.int q.1),Sa]) rfl ?_;have A:=y.up e S2;have hl2:F[li]?=Y (fT l):=e _ _ I (v7 y.gY I);have T:=Rj fc;refine c6 (dB (af rfl) (cV A.S.rx.rd rfl) (aj (x:=.tup (iA [(oN w.1.code:Int),q.1])) (c9 (aj (hS (aj (af rfl) aC) λK X k=>ll (w.2.code hw) (by rw[T];exact k)) (aj (af rfl) aC)) rfl) (aj (af rfl) aC)) (Jk A hl2 hf hr fb (c8 (by have:=c7 fl;have:=A.S.rx.la.len;simp only[WB]at *;lia)) λG Z3=>?_));refine c6 (ES Z3 rfl z (x:=(.cls,0)) trivial (λi hi=>by exact dw hi) (λi hi=>by exact dw hi) (c9 (aj ax (aj ax aC)) rfl) λG _ M=>?_);exact(show ba _ _ _ _ _ from ET M rfl C (af rfl) (af rfl) p2 λG i _ N=>h G _ [(.run (.tok w m f::t) q.2.1 UA Sa,i),(.cls,0)] rfl N)
  .rw[hb]at h E;have h:cf H0 s Γ (kT H0 r s d Γ L ti K) X (o8 c.ks (iT Γ L c.a8 c.ks w m f t) λu=>sR u.2.2.1 (.ok (⟨c.body,c.a8,u.2.2.1⟩,[.run (.tok w m f::t) u.2.1 W Sa,.emit u.1])) u.2.2.2):=h;refine jH (bb (af rfl) ax E) (i6 (dB (af rfl) (cV R.rd rfl) (aj (af rfl) (aj (af rfl) (aj ax aC))) (P4 (k:=1) hw p.nx R (h.xG Z.u Z.gY λq F e h=>za h (Z.u.t e) λh k2 p2 S2=>?_))));refine oI (a:=[Y (.ref r),Y (aH (.br (.tok w m f::t) D B)),Y (.str w.1.txt),Y (aH (.tok w m f)),Y (.lst (aP (.tok w m f::t))),Sa,Y (.int k2),Sa,Y (.tup (iA q.1))]) rfl ?_;have A:=Z.up e S2;refine c6 (ES A rfl z (x:=(.emit q.1,0)) trivial (λi hi=>by exact dw hi) (λi hi=>by exact dw hi) (c9 (aj ax (aj (af rfl) aC)) rfl) λG _ M=>?_);exact(show ba _ _ _ _ _ from ET M rfl C (af rfl) (af rfl) p2 λG i _ N=>h G _ [(.run (.tok w m f::t) q.2.1 W Sa,i),(.emit q.1,0)] rfl N)
def nr(H0:List MO)(r s d:Nat)(Γ:ct)(L:List (Str×Int))(K:bp)(q:Co×List dc)(G:List MO):Prop:=∀b a,a.map (·.1)=q.2->Sx H0 G r s d Γ L q.1 b a->K .none G
theorem Sx.ins(Z:Sx H0 H r s d Γ L c ls ti)(hi:H[i]?=Y (.inst 522 fs))(n:¬i∈ls++own ti)(b:r<=i):Sx H0 (H.set i (.inst 522 fs')) r s d Γ L c ls ti:=by
 have R:=Z.S.rx;exact⟨⟨R.ins hi (by decide) (by decide) (R.la.st λj a q=>n (by rw[←q];exact acG _ a)),sn Z.S.bd (fU hi Z.S.bd (show(524:Nat)≠0 by decide)),sn Z.S.tk (fU hi Z.S.tk (show(524:Nat)≠0 by decide)),λx hx=>(Z.S.ta x hx).st λj a q=>n (by rw[←q];exact aau _ (Dc hx a)),Z.S.nd⟩,Z.u.st (Z.no b) _,Z.h0,Z.nw⟩
theorem Sx.run(Z:Sx H0 H r s d Γ L c ls ((.run is t f b,i)::ti))(w:Ps is k' t'):Sx H0 (H.set i (jl is k' f b')) r s d Γ L c ls ((.run is t' f b',i)::ti):=by
 refine aU (Z.S.ta _ (WL ..)) λk p hi=>?_;have R:=Z.S.rx;have nd:=Z.S.nd;have e:¬i∈ls:=λh=>(ako.mp nd).2.2 i h i (WL ..) rfl;have l:¬i∈own ti:=λh=>(VU.mp (show(i::own ti).Nodup from(ako.mp nd).2.1)).1 h;exact⟨⟨R.ins hi (by decide) (by decide) (R.la.st λj a q=>e (by rw[←q];exact a)),sn Z.S.bd (fU hi Z.S.bd (show(524:Nat)≠0 by decide)),by
  have:=sn (m:=jl is k' f b') Z.S.tk (fU hi Z.S.tk (show(524:Nat)≠0 by decide));exact this,λx hx=>by
  cases hx with
  |head=>exact⟨k',w,eS hi _⟩
  |tail _ hx=>exact(Z.S.ta x (af9 _ hx)).st λj a q=>l (by rw[←q];exact Dc hx a),Z.S.nd⟩,Z.u.st (Z.no (Z.nw i (aau _ (WL ..)))) _,Z.h0,Z.nw⟩
theorem PN(h:m e H (λv G=>o e G (λx G=>oP (mH n cs es x v G) λG=>Kf .next e G) (xE Xf e)) (xE Xf e)):cW n cs es o m e H Kf Xf:=h
theorem aaE(a b:Nat):decide ((a:Int)< (b:Int))=aca a b:=by
 rw[blt_eq];by_cases h:a < b
 .rw[ab8 h,ab8 (by lia)]
 .rw[ahR h,ahR (by lia)]
theorem ahh(Z:Sx H0 H r s d Γ L c ls ti)(hi:H[i]?=Y (jl is k f b))(p:Ps is k t)(hn:¬i∈ls++own ti)(hr:r<=i)(h:cf H0 s Γ (nr H0 r s d Γ L K) X (DK Γ L c (ti.map (·.1)) is t f (Rk b c.a8.length))):Bv [.ref r,.ref i] H K X:=by
 unfold Bv;have ln:=Z.S.rx.la.len;have B:∀{a:Nat}{H:List MO},Sx H0 H r s d Γ L c ls ti->H[i]?=Y (jl is k f (Y a))->cf H0 s Γ (nr H0 r s d Γ L K) X (DK Γ L c (ti.map (·.1)) is t f a) ->
   arc [Y (.ref r),Y (.ref i),Sa] H (d6 K) (λC fs _ H=>X C fs H):=by
  intro a H Z hi h;have R:=Z.S.rx;have iE:Ev asf [Y (.ref r),Y (.ref i),Sa] H (.lst (aP is)):=cu (af rfl) (eU hi rfl rfl) rfl;have aE:Ev asj [Y (.ref r),Y (.ref i),Sa] H (.int k):=cu (af rfl) (eU hi rfl rfl) rfl;have dE:=bb aE (de iE (j9 p H)) (nD (Nq p));cases t with
  |nil =>
   refine bM dE (fW ?_);have N:Ev (aF mC ash (aw ml [522] [] ay)) [Y (.ref r),Y (.ref i),Sa] H (aca a c.a8.length):=bb (de (u6 R.rd rfl) (zc R)) (y:=.int a) (cu (af rfl) (eU hi rfl rfl) rfl) (zt (by rw[aaE,ln]));have h:cf H0 s Γ (nr H0 r s d Γ L K) X (cond (aca a c.a8.length) (match c.a8 with|l::_=>fz c.ks aq l.tok | []=>.stuck) (.ok (c,ti.map (·.1)))):=h;cases hb:aca a c.a8.length with
   |false=>rw[hb]at h N;exact bL N (h H ls ti rfl Z)
   |true =>
    rw[hb]at h N;obtain⟨body,a8,ks⟩:=c;cases a8 with
    |nil=>exact h.elim
    |cons l labs'=>cases ls with
     |nil=>exact R.la.elim
     |cons li z=>exact bM N (c6 (cG (aj ax (aj (cu (bB (u6 R.rd rfl) (tY ax rfl) (PR R)) (eU R.la.1 rfl rfl) (by cases l.tok<;>rfl)) aC)) (gU (cf.rf (P:=nr H0 r s d Γ L K) h Z.u Z.gY))))
  |cons it Q =>
   have hg:∃h',bw (ti.map (·.1)) 900=W/\h'=h:=⟨h,by cases it with|br=>exact h.gr.1|tok=>exact h.gr.1,rfl⟩;refine aU hg λ_ hg _=>?_;have fl:bw ti 900=W:=c8 (by have:=c7 hg;rw[VO]at this;exact this);refine bL dE (dz (v:=aH it) (bB iE aE (lF p H)) (c6 (ES Z rfl (c8 (by have:=c7 fl;lia)) (x:=(.run is (it::Q) f (Y a),i)) ⟨k,p,hi⟩ (λj hj=>by cases hj with|head=>exact hn|tail _ h=>exact dw h) (λj hj=>by cases hj with|head=>exact hr|tail _ h=>exact dw h) (c9 (aj ax (aj (af rfl) aC)) rfl) λG ki E=>?_)));have m:=ki _ _ _ hi;cases it with
   |br M D A =>
    have h:cf H0 s Γ (nr H0 r s d Γ L K) X ((BS Γ L c (.br M D A)).bind λq=>.ok (q.1,q.2++(.run is Q f (Y a)::ti.map (·.1)))):=h.gr.2;refine lC (by walk_at "e") (gW (v:=.int (k+1:Nat)) (bB (cu (af rfl) (eU m rfl rfl) rfl) ax rfl) (af rfl) (oU m rfl) ?_);have I:Sx H0 (G.set i (jl is (k+1) f (Y a))) r s d Γ L c ls ((.run is Q f (Y a),i)::ti):=E.run p.nx;exact(show ba _ _ _ _ _ from dB (af rfl) (cV I.S.rx.rd rfl) (aj (af rfl) aC) (ac7 (it:=.br M D A) p.sm I (c8 (by have:=c7 fl;simp only[WB];lia)) (h.imp λv G h z nt e Z=>h G z _ (by rw[akG,e];rfl) Z) rfl))
   |tok w D A =>
    have h:cf H0 s Γ (nr H0 r s d Γ L K) X (cond (f||nW w.1.sort) (fz c.ks aq (.tok w D A)) ((Dg Γ L c a w D A Q).bind λq=>.ok (q.2,.run is q.1 f (Y a)::ti.map (·.1)))):=h.gr.2;refine jH (by walk_at "e") ?_;have T:Ev (cq (aw p5 [522] [] ay)) [Y (.ref r),Y (.ref i),Y (aH (.tok w D A))] G f:=fP (cu (af rfl) (eU m rfl rfl) rfl) rfl;have no:cf H0 s Γ (nr H0 r s d Γ L K) X (fz c.ks aq (.tok w D A))->ba (aA eg [J aq,aB]) [Y (.ref r),Y (.ref i),Y (aH (.tok w D A))] G (d6 K) (λC fs _ H=>X C fs H):=λh=>(show aA _ _ _ _ _ _ from cG (aj ax (aj (af rfl) aC)) (gU (cf.rf (P:=nr H0 r s d Γ L K) h E.u E.gY)));cases hf:f with
    |true=>subst hf;exact lC (tX T) (no h)
    |false =>
     subst hf;cases hw:nW w.1.sort with
     |true=>rw[hw]at h;exact lC (kH T (tX (bb (cu (af rfl) AL rfl) ax (Jf hw)))) (no h)
     |false =>
      rw[hw]at h;refine jH (kH T (kH (bb (cu (af rfl) AL rfl) ax (Jf hw)) (by walk_at "e"))) (PN (dB (af rfl) (cV E.S.rx.rd rfl) (aj (af rfl) (aj (af rfl) aC)) (agj hw m p E (cf.imp (P:=nr H0 r s d Γ L K) h λv G h k2 z p2 I=>?_))));refine aU (I.S.ta _ (WL ..)) λk3 p3 hi3=>?_;exact(show Ev ay _ G (O.ref i) from af rfl) _ _ (oI (oU hi3 rfl) (h _ z _ rfl (I.run p2)))
 cases b with
 |none =>
  refine fun2 (bM (bb (cu (af rfl) (eU hi rfl rfl) rfl) ax rfl) (gW (de (u6 Z.S.rx.rd rfl) (zc Z.S.rx)) (af rfl) (oU hi rfl) ?_));have h:cf H0 s Γ (nr H0 r s d Γ L K) X (DK Γ L c (ti.map (·.1)) is t f ls.length):=by rw[ln];exact h
  exact B (Z.ins hi hn hr) (eS hi (jl is k f (Y ls.length))) h
 |some b=>exact fun2 (bL (bb (cu (af rfl) (eU hi rfl rfl) rfl) ax rfl) (B Z hi h))
end
def JQ(a:ct)(L:List (Str×Int))(c:Co)(ts:List dc):dc->Ro (Co×List dc)
 | .emit v=>ij (bw c.body 1000) (.ok (⟨c.body++[v],c.a8,c.ks⟩,ts))
 | .jh v l=>ij (bw c.body 1000) (ij (bw c.a8 900) (.ok (⟨c.body++[v],l::c.a8,c.ks⟩,ts)))
 | .cls=>ij (bw c.body 1000) (match c.a8 with|l::labs'=>.ok (⟨c.body++[[11]],labs',c.ks⟩,ts)| []=>.stuck)
 | .run is t f b=>DK a L c ts is t f (Rk b c.a8.length)
def zG(a:ct)(L:List (Str×Int)):Nat->Co->List dc->Ro Co
 |0,_,_=>.stuck
 |n+1,c,ts=>match ts with
  | []=>ij (bw c.body 1000) (.ok ⟨c.body++[[11]],c.a8,c.ks⟩)
  |x::ts=>ij (bw ts 900) ((JQ a L c ts x).bind λq=>zG a L n q.1 q.2)
section
variable{K:bp}{X:KX}{H0 H G:List MO}{is:List Itm}{k:Nat}{it:Itm}{t:List Itm}{i j r d s:Nat}{Γ:ct}{L:List (Str×Int)}{ks ks':List Kd}{q:Kd}{ls:List Nat}{a8:List dN}{c:Co}{ti:List (dc×Nat)}
theorem ahZ(Z:Sx H0 H r s d Γ L c ls ti)(hx:gO H x)(m:∀i,i∈fV x->¬i∈ls++own ti)(w:∀i,i∈fV x->r<=i)(h:cf H0 s Γ (nr H0 r s d Γ L K) X (JQ Γ L c (ti.map (·.1)) x.1)):Bx [.ref r,tA x] H K X:=by
 unfold Bx;have R:=Z.S.rx;obtain⟨a,i⟩:=x;cases a with
 |emit v =>
  refine a9 h.gr λe h=>?_;refine fun2 (oX (xs:=[.str zD,.tup (iA v)]) (af rfl) rfl (lC (by walk_at "e") ?_));exact(show ba _ _ _ _ _ from vA Z e rfl (v:=v) (af rfl) λG _ Z=>h G ls ti rfl Z)
 |jh v l =>
  refine a9 h.gr λe h=>?_;refine a9 h.gr λfl h=>?_;refine fun2 (oX (xs:=[.str yA,.tup [.tup (iA v),.ref i]]) (af rfl) rfl (jH (by walk_at "e") (lC (by walk_at "e") ?_)));refine(show ba _ _ _ _ _ from dB (af rfl) (cV R.rd rfl) (aj (x:=.tup (iA v)) (bB (af rfl) ax rfl) (aj (x:=.ref i) (bB (af rfl) ax rfl) aC)) (Jk Z hx (m i (WL ..)) (w i (WL ..)) e (c8 (by have:=c7 fl;have:=R.la.len;simp only[WB]at *;lia)) λG Z=>h G _ ti rfl Z))
 |cls =>
  refine a9 h.gr λe h=>?_;refine fun2 (oX (xs:=[.str qr,.none]) (af rfl) rfl (jH (by walk_at "e") (jH (by walk_at "e") (lC (by walk_at "e") ?_))));obtain⟨body,a8,ks⟩:=c;cases a8 with
  |nil=>exact h.elim
  |cons l labs'=>cases ls with
   |nil=>exact R.la.elim
   |cons z y=>exact(show ba _ _ _ _ _ from dB (af rfl) (cV R.rd rfl) aC (M3 Z rfl rfl e λG Z=>h G _ ti rfl Z))
 |run is t f b =>
  refine aU hx λk p hi=>?_;refine fun2 (oX (xs:=[.str jE,.ref i]) (af rfl) rfl (jH (by walk_at "e") (jH (by walk_at "e") (jH (by walk_at "e") ?_))));exact(show ba _ _ _ _ _ from dB (af rfl) (cV R.rd rfl) (aj (af rfl) aC) (ahh Z hi p (m i (WL ..)) (w i (WL ..)) h))
def CP(H0:List MO)(r s d:Nat)(Γ:ct)(L:List (Str×Int))(K:bp)(c:Co)(G:List MO):Prop:=Up [s+2,s+3] H0 G->da G s Γ c.ks->G[r+1]?=Y (.lst (i9 c.body))->K (.ref (r+1)) G
theorem aiC(I:Nat->En->List MO->Prop)(st:∀n e G (go:En->List MO->Prop),(∀e' b,I n e' b->go e' b)->I (n+1) e G->T e G (λg H=>cP g (B e H (mz go Kf) Xf) (Kf .next e H)) (xE Xf e))(z:∀e G,I 0 e G->False)(n:Nat)(a:n<=3000)(h:I n e G):gm T B e G Kf Xf:=by
 have A:∀m n e G,n<=m->I n e G->xf T B Kf Xf m e G:=by
  intro m;induction m with
  |zero=>intro n e G a h;have:n=0:=Nat.le_zero.mp a;subst this;exact(z e G h).elim
  |succ m f =>
   intro n e G a h;cases n with
   |zero=>exact(z e G h).elim
   |succ n=>exact st n e G _ (λe' b h'=>f n e' b (air a) h') h
 rw[J4];exact A 3000 n e G a h
theorem afC{k:Nat}{l:List (dc×Nat)}(h:H[k]?=Y (.lst (l.map tA).reverse)):dk (.ref k) (.lst []) H=Y (match l with | []=>UA|_::_=>W):=by
 rw[ne_nil h];cases l with
 |nil=>rfl
 |cons x l =>
  have:I6 ((x::l).map tA).reverse=UA:=by
   rw[WH,aeK];cases (l.map tA).reverse<;>rfl
  rw[this];rfl
theorem ag4(Z:Sx H0 H r s d Γ L c ls [])(Q:n<=3000)(p:Ps is 0 is)(h:cf H0 s Γ (CP H0 r s d Γ L K) X (zG Γ L n c [.run is is UA Sa])):yf [.ref r,.lst (aP is)] H K X:=by
 unfold yf;refine fun2 (c6 (ET Z rfl rfl (af rfl) (show Ev (ah 0) _ _ (.int (0:Nat)) from ax) p λG i _ Z=>?_));refine aiC (λn e G=>∃(c:Co) (ls:List Nat) (ti:List (dc×Nat)),e=[Y (.ref r),Y (.lst (aP is))]/\Sx H0 G r s d Γ L c ls ti/\cf H0 s Γ (CP H0 r s d Γ L K) X (zG Γ L n c (ti.map λx:dc×Nat=>x.1))) ?_ ?_ n Q ⟨c,ls,_,rfl,Z,h⟩
 .intro n e G go w l;refine gS l λc ls ti m Z h=>?_;subst m;have R:=Z.S.rx;have D:Ev (aw iw [695] [] ai) [Y (.ref r),Y (.lst (aP is))] G (.ref (r+3)):=DE R.rd rfl;have C:=bb D (show Ev (ar []) _ G (.lst []) fromλK X k=>k) (afC Z.S.tk);cases ti with
  |nil =>
   have h:cf H0 s Γ (CP H0 r s d Γ L K) X (ij (bw c.body 1000) (.ok ⟨c.body++[[11]],c.a8,c.ks⟩)):=h;refine a9 h.gr λM h=>?_;refine C _ _ (cF rfl (c6 (vA Z M rfl (v:=[11]) (c9 (aj ax aC) rfl) λG _ Z=>cy (v:=.ref (r+1)) (SJ Z.S.rx.rd rfl) (h G Z.u Z.gY Z.S.bd))))
  |cons x ti =>
   have h:cf H0 s Γ (CP H0 r s d Γ L K) X (ij (bw (ti.map (·.1)) 900) ((JQ Γ L c (ti.map (·.1)) x.1).bind λq=>zG Γ L n q.1 q.2)):=h;refine a9 h.gr λfl h=>?_;have fl:ti.length<=900:=by have:=c7 fl;rw[VO]at this;exact this
   have tk:=Z.S.tk;rw[WH,aeK]at tk;refine C _ _ (cT rfl (show ba _ _ _ _ _ from ER (af rfl) (cV R.rd rfl) ?_));show aM _ _ _ _ _ _ _ _ _;refine hO D (hZ tk) Ob (oI (MC tk (c8 (by rw[VK,aeG,VO];simp only[WB,akf];lia))) ?_);have nd:=Z.S.nd;have f:(ls++(fV x++own ti)).Nodup:=nd;have E:Sx H0 (G.set (r+3) (.lst (ti.map tA).reverse)) r s d Γ L c ls ti:=Z.tasks (λy T=>Z.S.ta y (af9 _ T)) (by
    rw[ako]at f ⊢;exact⟨f.1,(ako.mp f.2.1).2.1,λa N b hb=>f.2.2 a N b (aau _ hb)⟩) λi hi=>Z.nw i (by
    rcases aa1.mp hi with hi|hi
    .exact acG _ hi
    .exact aau _ (aau _ hi))
   have z:gO (G.set (r+3) (.lst (ti.map tA).reverse)) x:=w6 (Z.S.ta x (WL ..)) Z.S.tk;refine ahZ E z (λi hi hm=>?_) (λi hi=>Z.nw i (aau _ (acG _ hi))) (h.imp λv F h A B e I=>w _ _ ⟨v.1,A,B,rfl,I,by rw[e];exact h⟩);rw[ako]at f;rcases aa1.mp hm with hm|hm
   .exact f.2.2 i hm i (acG _ hi) rfl
   .exact(ako.mp f.2.1).2.2 i hi i hm rfl
 .intro e G l;refine gS l λc ls ti _ _ h=>?_;exact h
end
section
variable{K:bp}{X:KX}{H0 H G:List MO}{is:List Itm}{k:Nat}{it:Itm}{t:List Itm}{i j r d s:Nat}{Γ:ct}{L:List (Str×Int)}{ks ks':List Kd}
theorem Tf(h:m e H (λv G=>o e G (λx G=>oP (mH n cs es x v G) λG=>C e G Kf Xf) (xE Xf e)) (xE Xf e)):ak (cW n cs es o m) C e H Kf Xf:=h
theorem I4{P:List MO->Prop}(l:e[0]?=Y (Y (.ref j)))(f:G[j]?=Y (.inst C fs))(b:(bx C cs&&bw fs 900)=W)(h:P ((G++[MO.lst []]).set j (MO.inst C (fN n (O.ref G.length) fs)))):gj [] e G (λv G=>Loc 0 e G (λx G=>oP (mH n cs es x v G) P) Xf) Xf:=by
 conv=>whnf
 exact oI (a:=.ref j) (by rw[l];rfl) (oI (oU ((Le.n G _).g f) b) h)
theorem ag5(h:∀G,Le H G->G[H.length]?=Y (tc H.length s d)->G[H.length+1]?=Y (.lst [])->G[H.length+2]?=Y (.lst [])->G[H.length+3]?=Y (.lst [])->K (.ref H.length) G):xK [.ref s,.ref d] H K X:=by
 unfold xK;rw[dU];show Bp _ _ _ _;unfold Bp;refine kM (gW (af rfl) (af rfl) (iZ rfl) (gW (af rfl) (af rfl) (iZ rfl) (Tf ?_)));have e:(H++[MO.inst 695 [(dR,.ref s),(fJ,.ref d)]]).length=H.length+1:=by rw[VK];rfl
 have l:=ef H (MO.inst 695 [(dR,.ref s),(fJ,.ref d)]);have A:=Le.n H (MO.inst 695 [(dR,.ref s),(fJ,.ref d)]);show gj [] _ (H++[MO.inst 695 [(dR,.ref s),(fJ,.ref d)]]) _ _;have x:=iJ H;generalize H++[MO.inst 695 [(dR,.ref s),(fJ,.ref d)]]=G0 at e l A ⊢;refine I4 rfl l rfl (Tf ?_);rw[e];have f:((G0++[MO.lst []]).set H.length (.inst 695 (fN fK (.ref (H.length+1)) [(dR,.ref s),(fJ,.ref d)]))).length=H.length+2:=by rw[akT,VK,e];rfl
 have p:((G0++[MO.lst []]).set H.length (.inst 695 (fN fK (.ref (H.length+1)) [(dR,.ref s),(fJ,.ref d)])))[H.length]?=Y (.inst 695 [(dR,.ref s),(fJ,.ref d),(fK,.ref (H.length+1))]):=eS ((Le.n G0 _).g l) _;have b1:((G0++[MO.lst []]).set H.length (.inst 695 (fN fK (.ref (H.length+1)) [(dR,.ref s),(fJ,.ref d)])))[H.length+1]?=Y (.lst []):=sn (by rw[←e];exact ef G0 _) (by lia);have e1:=(A.t (Le.n G0 (.lst []))).st x (.inst 695 (fN fK (.ref (H.length+1)) [(dR,.ref s),(fJ,.ref d)]));generalize ((G0++[MO.lst []]).set H.length (.inst 695 (fN fK (.ref (H.length+1)) [(dR,.ref s),(fJ,.ref d)])))=a at f p b1 e1 ⊢;refine I4 rfl p rfl (PN ?_);rw[f];have y:((a++[MO.lst []]).set H.length (.inst 695 (fN dg (.ref (H.length+2)) [(dR,.ref s),(fJ,.ref d),(fK,.ref (H.length+1))]))).length=H.length+3:=by rw[akT,VK,f];rfl
 have w:((a++[MO.lst []]).set H.length (.inst 695 (fN dg (.ref (H.length+2)) [(dR,.ref s),(fJ,.ref d),(fK,.ref (H.length+1))])))[H.length]?=Y (.inst 695 [(dR,.ref s),(fJ,.ref d),(fK,.ref (H.length+1)),(dg,.ref (H.length+2))]):=eS ((Le.n a _).g p) _;have b2:=sn (m:=.inst 695 (fN dg (.ref (H.length+2)) [(dR,.ref s),(fJ,.ref d),(fK,.ref (H.length+1))])) ((Le.n a (.lst [])).g b1) (show H.length≠H.length+1 by lia);have z:((a++[MO.lst []]).set H.length (.inst 695 (fN dg (.ref (H.length+2)) [(dR,.ref s),(fJ,.ref d),(fK,.ref (H.length+1))])))[H.length+2]?=Y (.lst []):=sn (by rw[←f];exact ef a _) (by lia);have e2:=(e1.t (Le.n a (.lst []))).st x (.inst 695 (fN dg (.ref (H.length+2)) [(dR,.ref s),(fJ,.ref d),(fK,.ref (H.length+1))]));generalize ((a++[MO.lst []]).set H.length (.inst 695 (fN dg (.ref (H.length+2)) [(dR,.ref s),(fJ,.ref d),(fK,.ref (H.length+1))])))=b at y w b2 z e2 ⊢;refine I4 rfl w rfl ?_;rw[y];refine h _ ((e2.t (Le.n b _)).st x _) (eS ((Le.n b _).g w) _) (sn ((Le.n b _).g b2) (by lia)) (sn ((Le.n b _).g z) (by lia)) (sn (by rw[←y];exact ef b _) (by lia))
def k6(Γ:ct)(L:List (Str×Int))(n:Nat)(ks:List Kd)(is:List Itm):Ro Co:=zG Γ L n ⟨[],[],ks⟩ [.run is is UA Sa]
def Qt(H0:List MO)(s:Nat)(Γ:ct)(K:bp)(c:Co)(G:List MO):Prop:=∀b,Up [s+2,s+3] H0 G->da G s Γ c.ks->G[b]?=Y (.lst (i9 c.body))->H0[b]?=Sa->K (.ref b) G
theorem SN(S:da H s Γ ks)(m:H[d]?=Y (.bu (dA L)))(w:s+10 < d)(B:n<=3000)(p:Ps is 0 is)(h:cf H s Γ (Qt H s Γ K) X (k6 Γ L n ks is)):pN [.ref s,.ref d,.lst (aP is)] H K X:=by
 unfold pN;refine kM (u9 ?_);show aA xK _ _ _ _ _;refine cG (aj (af rfl) (aj (af rfl) aC)) (ag5 λG e l y z A=>?_);have C:s+10 < H.length:=aoG w (WC.mp m).1;have Z:Sx H G H.length s d Γ L ⟨[],[],ks⟩ [] []:=⟨⟨⟨l,S.le e,e.g m,z,trivial,rfl,w,C⟩,y,A,λx h=>(by exact dw h),al6⟩,e.u,rfl,λi h=>by exact dw h⟩;exact dB (a:=aL (.ref H.length)) (e:=Y (.ref s)::Y (.ref d)::Y (.lst (aP is))::dS 0) (as:=[Loc 2]) (n:=rZ) (T:=aJ) (tab:=[(695,yf)]) ax (cV l rfl) (aj (af rfl) aC) (ag4 Z B p (cf.imp (P:=Qt H s Γ K) (f:=λc=>.ok c) (by cases q:k6 Γ L n ks is<;>(unfold k6 at q;rw[q];unfold k6 at h;rw[q]at h;exact h)) λc F h u D b=>h F _ u D b (WN (by lia))))
end
inductive TT where|w (o:OW)|l (xs:List TT)
mutual
noncomputable def mP:TT->O
 | .w o=>.str o.1.txt
 | .l xs=>.lst (cj xs)
noncomputable def cj:List TT->List O
 | []=>[]
 |x::r=>mP x::cj r
end
mutual
noncomputable def sL:Nat->TT->Itm×Nat
 |n,.w o=>(.tok o (1+n / 7) (1+n % 7),n+1)
 |n,.l xs=>(.br (gG (n+1) xs).1 (1+n / 7) (1+n % 7),(gG (n+1) xs).2)
noncomputable def gG:Nat->List TT->List Itm×Nat
 |n,[]=>([],n)
 |n,x::r=>((sL n x).1::(gG (sL n x).2 r).1,(gG (sL n x).2 r).2)
end
noncomputable def sY(f:List TT->Bool):TT->Bool | .w _=>W | .l ys=>f ys
def k4:Nat->List TT->Bool
 |0,_=>UA
 |n+1,xs=>bw xs 500&&b8 (sY (k4 n)) xs
section
variable{K:bp}{X:KX}{H G:List MO}{c k0:Nat}
theorem Oj:yv (.ref H.length) (H++[.inst C fs])=Y (.obj C fs,H++[.dead]):=by
 show((H++[MO.inst C fs])[H.length]?).bind _=_;rw[ef];show Y (O.obj C fs,(H++[MO.inst C fs]).set H.length .dead)=_;rw[vb]
theorem Uh{w:OW}{q t v:O}{b a:Nat}(e:O.obj 202 [(eC,q),(b9,t),(lA,v),(cZ,.int b),(df,.int a)]=aH (.tok w b a))(h:K (aH (.tok w b a)) (H++[.dead])):pB [q,t,v,.int b,.int a] H K X:=by
 unfold pB;rw[dU];show BG _ _ _ _;unfold BG;refine B5 (gW (af rfl) (af rfl) (iZ rfl) (gW (af rfl) (af rfl) (iZ rfl) (gW (af rfl) (af rfl) (iZ rfl) (gW (af rfl) (af rfl) (iZ rfl) (yW (af rfl) (af rfl) (iZ rfl) ?_)))));rw[←e]at h;exact bI rfl (oI Oj h)
theorem aaJ(h:K (aH (.br is r1 c1)) (H++[.dead])):vw [.lst (aP is),.int r1,.int c1] H K X:=by
 unfold vw;rw[dU];show By _ _ _ _;unfold By;refine pS (gW (af rfl) (af rfl) (iZ rfl) (gW (af rfl) (af rfl) (iZ rfl) (yW (af rfl) (af rfl) (iZ rfl) ?_)));exact bI rfl (oI Oj h)
theorem N7(n:Nat):(1:Int)+(n:Int).fdiv 7=((1+n / 7:Nat):Int):=by
 have:(n:Int).fdiv 7=((n / 7:Nat):Int):=by cases n<;>rfl
 rw[this];lia
theorem Oc(n:Nat):(1:Int)+(n:Int).fmod 7=((1+n % 7:Nat):Int):=by
 have:(n:Int).fmod 7=((n % 7:Nat):Int):=by cases n<;>rfl
 rw[this];lia
theorem agr(h:H[c]?=Y (.lst [.int n])):putItem (.ref c) (.int 0) v H=Y (H.set c (.lst [v])):=by
 unfold putItem;have e:ee mD H (.ref c)=Sa:=by show(H[c]?).bind _=_;rw[h];rfl
 rw[e,tO h];rfl
theorem aeH(h:H[c]?=Y (.lst [.int n])):aN az (.ref c) (.int 0) H=Y (.int n):=by
 unfold aN;rw[kU h];rfl
def IB(F:Fn):SM :=(ak arw (ak ar2 (aY asA (ba (aM aJ du [] aB [aA vw [aA F [aW,ay],bq,bz]])) arf)))
theorem ac9{t:Tg}{b:SM}{K:KF}{X:KE}{e:En}(h:K .next e H):forL t b K X [] e H:=h
theorem adm(h:H[k0]?=Y (.lst l)):yv (.ref k0) H=Y (.lst l,H.set k0 .dead):=by
 show(H[k0]?).bind _=_;rw[h];rfl
theorem aeE(ihF:∀(xs:List TT) (n:Nat) (H:List MO) (K:bp) (X:KX),k4 fu xs=W->H[c]?=Y (.lst [.int n])->(∀G,Up [c] H G->G[c]?=Y (.lst [.int ((gG n xs).2:Nat)])->K (.lst (aP (gG n xs).1)) G)->FW [.lst (cj xs),.ref c] H K X)(hn:H[k0]?=Sa)(cn:c≠k0)(ys:List TT):∀(n:Nat) (fd:List Itm) (x3 z A f:Option O) (G:List MO),fd.length+ys.length<=500->b8 (sY (k4 fu)) ys=W->Up [c] H G->G[c]?=Y (.lst [.int (n:Nat)])->G[k0]?=Y (.lst (aP fd))-> (∀x3 z A f G,Up [c] H G->G[c]?=Y (.lst [.int ((gG n ys).2:Nat)])->G[k0]?=Y (.lst (aP (fd++(gG n ys).1)))->KQ .next [N,Y (.ref c),Y (.ref k0),x3,z,A,f] G)->forL (.nm 3) (IB FW) KQ XE (cj ys) [N,Y (.ref c),Y (.ref k0),x3,z,A,f] G:=by
 induction ys with
 |nil=>exactλn fd x3 z A f G hl _ u B E h=>ac9 (h _ _ _ _ _ u B (by rw[E];exact congrArg (λl=>Y (MO.lst (aP l))) (af1 fd).symm))
 |cons y ys ih =>
  intro n fd x3 z A f G hl ha u B E h;rw[show cj (y::ys)=mP y::cj ys from rfl];refine Fy (e':=[N,Y (.ref c),Y (.ref k0),Y (mP y),z,A,f]) rfl ?_;have cE:∀{e:En},e[1]?=Y (Y (.ref c))->Ev (ao (aN az) ay (ah 0)) e G (.int n):=λhe=>bB (af he) ax (aeH B);refine oX (xs:=[.int (1+n / 7:Nat),.int (1+n % 7:Nat)]) (c9 (aj (bB ax (bB (v:=.int ((n:Int).fdiv 7)) (cE rfl) ax rfl) (show Y (O.int (1+(n:Int).fdiv 7))=_ by rw[N7])) (aj (bB ax (bB (v:=.int ((n:Int).fmod 7)) (cE rfl) ax rfl) (show Y (O.int (1+(n:Int).fmod 7))=_ by rw[Oc])) aC)) rfl) rfl ?_;refine JH (v:=.int (n+1:Nat)) (bB (cE rfl) ax rfl) (af rfl) ax (agr B) ?_;have jZ:(G.set c (.lst [.int (n+1:Nat)]))[c]?=Y (.lst [.int (n+1:Nat)]):=eS B _;have j:=sn (m:=.lst [.int (n+1:Nat)]) E cn;have u2:Up [c] H (G.set c (.lst [.int (n+1:Nat)])):=u.set (by show cond (VH c c) W UA=W;rw[alA];rfl);generalize (G.set c (.lst [.int (n+1:Nat)]))=D at jZ j u2 ⊢;have ha:cond (sY (k4 fu) y) (b8 (sY (k4 fu)) ys) UA=W:=ha;have hl':fd.length+(ys.length+1)<=500:=hl;have S:∀{F:List MO}{t:Itm}{z A f:Option O},Up [c] H F->F[c]?=Y (.lst [.int ((sL n y).2:Nat)])->F[k0]?=Y (.lst (aP fd))->aH t=aH (sL n y).1->t=(sL n y).1->b8 (sY (k4 fu)) ys=W->oP (kC aJ .app (.ref k0) [aH t] F) λp=>(λ(_:O) (H:List MO)=>mz (forL (.nm 3) (IB FW) KQ XE (cj ys)) KQ .next [N,Y (.ref c),Y (.ref k0),Y (mP y),z,A,f] H) p.1 p.2:=λu B E _ et L=>by
   subst et;refine oI (lQ E (c8 (by rw[lX];lia))) ?_;refine ih (sL n y).2 (fd++[(sL n y).1]) _ _ _ _ _ (by rw[VK];show fd.length+1+ys.length<=500;lia) L (u.st hn _) (sn B (acb cn)) (by rw[eS E,NM];rfl) λx3 z A f G u B E=>?_;exact h x3 z A f G u B (by rw[E,akn];rfl)
  cases y with
  |l zs =>
   have T:k4 fu zs=W/\b8 (sY (k4 fu)) ys=W:=abt (a:=k4 fu zs) ha λa b=>⟨a,b⟩;refine lC (mX (fP (Fg (af rfl) ax rfl) rfl) rfl) (show ba _ _ _ _ _ from hO (af rfl) (hZ j) kL ?_);show aA vw _ _ _ _ _;show aA FW _ _ _ _ _;refine cG (xs:=[.lst (cj zs),.ref c]) (aj (af rfl) (aj (af rfl) aC)) (ihF zs (n+1) D _ _ T.1 jZ λF u3 pU=>?_);refine jX (xs:=[.int (1+n / 7:Nat),.int (1+n % 7:Nat)]) (aj (af rfl) (aj (af rfl) aC)) (aaJ ?_);exact S (t:=.br (gG (n+1) zs).1 (1+n / 7) (1+n % 7)) ((u2.t u3).nn _) ((Le.n F _).g pU) ((Le.n F _).g (u3 _ _ j (sS (acb cn)))) rfl rfl T.2
  |w o =>
   have L:b8 (sY (k4 fu)) ys=W:=ha;refine jH (mX (fP (Fg (af rfl) ax rfl) rfl) rfl) ?_;refine aU (o.2.dig D) λch h1 h2=>?_;have M:∀{f:Option O},Ev (ao (aN az) aW (ah 0)) [N,Y (.ref c),Y (.ref k0),Y (.str o.1.txt),Y (.int (1+n / 7:Nat)),Y (.int (1+n % 7:Nat)),f] D ch:=bB (af rfl) ax h1;have Q:∀{f:Option O},oP (kC aJ .app (.ref k0) [aH (.tok o (1+n / 7) (1+n % 7))] (D++[.dead])) λp=>(λ(_:O) (H:List MO)=>mz (forL (.nm 3) (IB FW) KQ XE (cj ys)) KQ .next [N,Y (.ref c),Y (.ref k0),Y (.str o.1.txt),Y (.int (1+n / 7:Nat)),Y (.int (1+n % 7:Nat)),f] H) p.1 p.2:=S (u2.nn _) ((Le.n D _).g jZ) ((Le.n D _).g j) rfl rfl L;cases I:eI o.1.sort with
   |true =>
    rw[I]at h2;refine lC (bb M ax h2) (show ba _ _ _ _ _ from hO (af rfl) (hZ j) kL ?_);show aA pB _ _ _ _ _;have hv:∀f:Option O,Ev (ToInt nq aW) [N,Y (.ref c),Y (.ref k0),Y (.str o.1.txt),Y (.int (1+n / 7:Nat)),Y (.int (1+n % 7:Nat)),f] D (.int o.1.val):=λf K X k=>af (i:=3) (v:=.str o.1.txt) rfl (λy G=>oP ((aS y).bind λs=>look s nq) λi=>K (.int i) G) X (oI (x:=(aS (.str o.1.txt)).bind λs=>look s nq) (o.2.int I) k);refine cG (aj ax (aj (af rfl) (aj (hv _) (aj (af rfl) (aj (af rfl) aC))))) (Uh (w:=o) ?_ Q);show _=zW o.1 _ _;unfold zW;rw[Uy I,ahK I];rfl
   |false =>
    rw[I]at h2;have C:=o.2.dol I h1;have sE:∀f:Option O,Ev asi [N,Y (.ref c),Y (.ref k0),Y (.str o.1.txt),Y (.int (1+n / 7:Nat)),Y (.int (1+n % 7:Nat)),f] D (.str o.1.sort.s):=by
     intro f;cases hd:eD o.1.sort with
     |true =>
      rw[hd]at C;rw[ahJ hd];exact lp (bb M ax C) ax
     |false =>
      rw[hd]at C;have hx:=ahL I hd;refine iY (o.2.ae3 hx h1) λtt e1 e2 Z=>?_;refine jz (bb M ax C) ?_;cases hw:nW o.1.sort with
      |true =>
       rw[hw]at Z;rw[ahM hw hx];cases tt with
       |true=>exact jz (Bh ax M e1 ax (Z rfl)) ax
       |false=>exact jz (NY ax M e1) ax
      |false =>
       rw[hw]at e2 Z;rw[ahO hw];cases tt with
       |true=>exact lp (Bh ax M e1 ax (Z rfl)) ax
       |false=>cases e2 rfl
    refine jH (bb M ax h2) (dz (sE _) (show ba _ _ _ _ _ from hO (af rfl) (hZ j) kL ?_));show aA pB _ _ _ _ _;refine cG (aj (af rfl) (aj (af rfl) (aj (af rfl) (aj (af rfl) (aj (af rfl) aC))))) (Uh (w:=o) ?_ Q);show _=zW o.1 _ _;unfold zW;rw[ahN _ _ I];rfl
theorem Qo(b:Nat):∀(xs:List TT) (n:Nat) (H:List MO) (K:bp) (X:KX),k4 b xs=W->H[c]?=Y (.lst [.int n])-> (∀G,Up [c] H G->G[c]?=Y (.lst [.int ((gG n xs).2:Nat)])->K (.lst (aP (gG n xs).1)) G)->ud b [.lst (cj xs),.ref c] H K X:=by
 induction b with
 |zero=>exactλxs n H K X h _ _=>bD h
 |succ b y =>
  intro xs n H K X x f h;show bl 2 [] 5 (AP b (ud b)) [.lst (cj xs),.ref c] H (λv H=>oP (yv v H) λp=>K p.1 p.2) X;show AP b (ud b) [Y (.lst (cj xs)),Y (.ref c),Sa,Sa,Sa,Sa,Sa] H (d6 λv H=>oP (yv v H) λp=>K p.1 p.2) (λC fs _ H=>X C fs H);have e:(bw xs 500&&b8 (sY (k4 b)) xs)=W:=x;rw[VG]at e;refine fo ?_;show ak (jt _ _ _ _) _ [Y (.lst (cj xs)),Y (.ref c),Y (.ref H.length),Sa,Sa,Sa,Sa] (H++[.lst []]) _ _;have l:=iJ H;have m:c≠H.length:=λq=>by rw[q,l]at f;exact bN f
  have j:=ef H (.lst []);have i:=(Le.n H (.lst [])).g f;have w:Up [c] H (H++[.lst []]):=Up.r.nn _;generalize H.length=k0 at l m j ⊢;generalize H++[MO.lst []]=G0 at j i w ⊢;show jt _ _ _ _ _ _ _ _;refine cast B1.symm (af rfl _ _ (E9 (a:=cj xs) rfl ?_));exact aeE y l m xs n [] Sa Sa Sa Sa G0 (by have:=c7 e.1;simp only[akf];lia) e.2 w i j λx3 z A B G u f j=>JP rfl rfl (cy (v:=.ref k0) (af rfl) (oI (adm j) (h (G.set k0 .dead) (u.st l _) (sn f (acb m)))))
end
section
variable{K:bp}{X:KX}{H G:List MO}{is:List Itm}{s:Nat}{Γ:ct}{ks:List Kd}
def Ec(s:Nat)(Γ:ct)(K:bp):Ro Co->Prop
 | .stuck=>False
 | .ok _=>False
 | .bad w r c ks=>∀G,da G s Γ ks->K (.tup [.str w,.int r,.int c]) G
 | .left w r ks=>∀G,da G s Γ ks->K (.tup [.str w,.int r]) G
theorem MP{K:KF}{ts os:List Nat}{sl:Nat}{a:SM}{r:List Hd}{C:Nat}{fs:List (Str×O)}{e:En}(m:bx C ts=W)(k:a (e.set sl (Y (.exc C fs))) H (λfl e H=>K fl (clean e) H) λ_ _ _ _=>False):qU K (⟨ts,os,sl,a⟩::r) C fs e H:=cT m k
theorem aaQ{K:KF}{ts os:List Nat}{sl:Nat}{a:SM}{r:List Hd}{C:Nat}{fs:List (Str×O)}{e:En}(m:bx C ts=UA)(o:bx C os=W)(k:qU K r C fs e H):qU K (⟨ts,os,sl,a⟩::r) C fs e H:=cF m (bI o k)
theorem aad:ix iR [] [144,164,183] (.exc 164 (lj w r c)) H=Y (.str w):=rfl
theorem aae:ix cZ [202,230,355] [164] (.exc 164 (lj w r c)) H=Y (.int r):=rfl
theorem aaf:ix df [202,230,355] [164] (.exc 164 (lj w r c)) H=Y (.int c):=rfl
theorem aai:ix iR [] [144,164,183] (.exc 183 (zb w r)) H=Y (.str w):=rfl
theorem aaj:ix cg [355,522] [183] (.exc 183 (zb w r)) H=Y (.int r):=rfl
theorem ag9{n:Nat}(S:da H s Γ ks)(b:n<=3000)(p:Ps is 0 is)(h:Ec s Γ K (k6 Γ [(ko,3)] n ks is)):ue [.ref s,.lst (aP is)] H K X:=by
 unfold ue;rw[dU];show AR [Y (.ref s),Y (.lst (aP is)),Sa] H (d6 K) (λC fs _ H=>X C fs H);unfold AR;show aA pN _ _ _ _ _;show pN [.ref s,.ref H.length,.lst (aP is)] (H++[.bu [(ko,.int 3)]]) _ _;have e:s+10 < H.length:=(WC.mp (S.tb .data)).1;refine SN (L:=[(ko,3)]) (S.le (Le.n H _)) (ef H _) e b p ?_;cases q:k6 Γ [(ko,3)] n ks is with
 |stuck=>rw[q]at h;exact h
 |ok c=>rw[q]at h;exact h.elim
 |bad w r c a =>
  rw[q]at h
  refineλF u S2=>?_
  show qU _ _ _ _ _ _;refine MP rfl ?_;exact cy (c9 (aj (cu (af rfl) aad rfl) (aj (cu (af rfl) aae rfl) (aj (cu (af rfl) aaf rfl) aC))) rfl) (h F S2)
 |left w r a =>
  rw[q]at h
  refineλF u S2=>?_
  show qU _ _ _ _ _ _;refine aaQ rfl rfl (MP rfl ?_);exact cy (c9 (aj (cu (af rfl) aai rfl) (aj (cu (af rfl) aaj rfl) aC)) rfl) (h F S2)
def Fw(k n:Nat):List O:=([qv n [.tup [.int 1]],.tup [.int 2,.int (-64)]::(qv n [.tup [.int 1]]++[.tup [.int 11]]),.tup [.int 3,.int (-64)]::(qv n [.tup [.int 1]]++[.tup [.int 11]]),.tup [.int 65,.int 1] :: .tup [.int 4,.int (-64)]::(qv n [.tup [.int 1]]++[.tup [.int 11]]),.tup [.int 4,.int (-64)] :: .tup [.int 1] :: .tup [.int 5]::(qv n [.tup [.int 1]]++[.tup [.int 11]])]:List (List O)).getD k []
theorem acT{k:Nat}(a:k < 5)(b:n < 4)(h:K (.lst (Fw k n)) H):yo [.int k,.int n] H K X:=by
 unfold yo;rw[dU];revert h;revert b;revert n;revert a;revert k;exact@zh _ (@jg _ id id id id) (@jg _ id id id id) (@jg _ id id id id) (@jg _ id id id id) (@jg _ id id id id)
end
def W0:OW:=bj { txt:=U 0x706f6e,code:=Y 1,aZ:=.f0} (by kernel_rfl!)
def W1:OW:=bj { txt:=U 0x6b636f6c62,j6:=W,code:=Y 2,aZ:=.f1} (by kernel_rfl!)
def W2:OW:=bj { sort:=.id,txt:=U 0x6224} (by kernel_rfl!)
def W3:OW:=bj { txt:=U 0x706f6f6c,j6:=W,code:=Y 3,aZ:=.f1} (by kernel_rfl!)
def W4:OW:=bj { sort:=.id,txt:=U 0x6c24} (by kernel_rfl!)
def W5:OW:=bj { txt:=U 0x6669,j6:=W,code:=Y 4,aZ:=.f1} (by kernel_rfl!)
def W6:OW:=bj { txt:=U 0x74736e6f632e323369,code:=Y 65,aZ:=.f11} (by kernel_rfl!)
def W7:OW:=bj { sort:=.int,txt:=U 0x31,val:=1} (by kernel_rfl!)
def W8:OW:=bj { txt:=U 0x6e656874,cz:=W} (by kernel_rfl!)
def W9:OW:=bj { txt:=U 0x65736c65,cz:=W,p7:=W,code:=Y 5,aZ:=.f0} (by kernel_rfl!)
def eX:OW:=bj { txt:=U 0x646e65,cz:=W,p7:=W,code:=Y 11,aZ:=.f0} (by kernel_rfl!)
def lP:OW:=bj { txt:=U 0x65707974,cz:=W} (by kernel_rfl!)
def mS:OW:=bj { txt:=U 0x6d61726170,cz:=W} (by kernel_rfl!)
def lh:OW:=bj { txt:=U 0x746c75736572,cz:=W} (by kernel_rfl!)
def Ym:OW:=bj { txt:=U 0x6c61636f6c,cz:=W} (by kernel_rfl!)
def Yn:OW:=bj { txt:=U 0x6d657469,cz:=W} (by kernel_rfl!)
def Yo:OW:=bj { txt:=U 0x74657366666f,cz:=W} (by kernel_rfl!)
def Yp:OW:=bj { txt:=U 0x74756d,cz:=W} (by kernel_rfl!)
def KU:OW:=bj { txt:=U 0x636e7566,cz:=W,heap:=Y (-16)} (by kernel_rfl!)
def Yq:OW:=bj { txt:=U 0x6e7265747865,cz:=W,heap:=Y (-17)} (by kernel_rfl!)
def Yr:OW:=bj { txt:=U 0x656c626174,cz:=W} (by kernel_rfl!)
def Ys:OW:=bj { txt:=U 0x79726f6d656d,cz:=W} (by kernel_rfl!)
def Yt:OW:=bj { txt:=U 0x6c61626f6c67,cz:=W} (by kernel_rfl!)
def Yu:OW:=bj { txt:=U 0x6d656c65,cz:=W} (by kernel_rfl!)
def Yv:OW:=bj { txt:=U 0x61746164,cz:=W} (by kernel_rfl!)
def Yw:OW:=bj { txt:=U 0x74726f706d69,cz:=W} (by kernel_rfl!)
def Yx:OW:=bj { txt:=U 0x74726f707865,cz:=W} (by kernel_rfl!)
def Yy:OW:=bj { txt:=U 0x7472617473,cz:=W} (by kernel_rfl!)
def Yz:OW:=bj { txt:=U 0x656c75646f6d,cz:=W} (by kernel_rfl!)
def YA:OW:=bj { txt:=U 0x6572616c636564,cz:=W} (by kernel_rfl!)
def jx:OW:=bj { txt:=U 0x323369,kd:=Y (-1),cz:=W} (by kernel_rfl!)
def KV:OW:=bj { txt:=U 0x343669,kd:=Y (-2),cz:=W} (by kernel_rfl!)
def YB:OW:=bj { txt:=U 0x666572636e7566,kd:=Y (-16),cz:=W} (by kernel_rfl!)
def YC:OW:=bj { txt:=U 0x6665726e7265747865,kd:=Y (-17),cz:=W} (by kernel_rfl!)
def Aw:OW:=bj { txt:=U 0x313d74657366666f,cz:=W,off:=W,cut:=U 0x31,num:=Y 1} (by kernel_rfl!)
def KW:OW:=bj { txt:=U 0x3d74657366666f,cz:=W,off:=W,cut:=U 0} (by kernel_rfl!)
def Ax:OW:=bj { txt:=U 0x343d6e67696c61,cz:=W,al:=W,cut:=U 0x34,num:=Y 4,ex:=2} (by kernel_rfl!)
def YD:OW:=bj { txt:=U 0x343d67696c61} (by kernel_rfl!)
def YE:OW:=bj { txt:=U 0x646e616e2e323369} (by kernel_rfl!)
def YF:OW:=bj { txt:=U 0x73706f6f6c} (by kernel_rfl!)
def YG:OW:=bj { txt:=U 0x6464612e323366,jf:=W} (by kernel_rfl!)
def YH:OW:=bj { txt:=U 0x74736e6f632e343666,jf:=W} (by kernel_rfl!)
def YI:OW:=bj { txt:=U 0x64616f6c2e38323176,jf:=W} (by kernel_rfl!)
def YJ:OW:=bj { txt:=U 0x755f3436665f7461735f636e7572742e343669,jf:=W} (by kernel_rfl!)
def YK:OW:=bj { txt:=U 0x3233665f746572707265746e6965722e323369,jf:=W} (by kernel_rfl!)
def YL:OW:=bj { txt:=U 0x74616c70732e3631783869,jf:=W} (by kernel_rfl!)
def YM:OW:=bj { txt:=U 0x67656e2e343666,jf:=W} (by kernel_rfl!)
def tJ:OW:=bj { txt:=U 0x7463656c6573,code:=Y 27,aZ:=.f0} (by kernel_rfl!)
def YN:OW:=bj { txt:=U 0x343666,ln:=W} (by kernel_rfl!)
def YO:OW:=bj { txt:=U 0x38323176,ln:=W,jf:=W} (by kernel_rfl!)
def YP:OW:=bj { txt:=U 0x323366,ln:=W} (by kernel_rfl!)
def Eg:OW:=bj { sort:=.id,txt:=U 0x6d24} (by kernel_rfl!)
def xw:OW:=bj { sort:=.int,txt:=U 0x35,val:=5} (by kernel_rfl!)
def dP:OW:=bj { sort:=.int,txt:=U 0x30,val:=0} (by kernel_rfl!)
def pz:OW:=bj { sort:=.id,txt:=U 0x7824} (by kernel_rfl!)
def xx:OW:=bj { sort:=.res,txt:=U 0x5d} (by kernel_rfl!)
def KY:OW:=bj { txt:=U 0x6464612e323369,code:=Y 106,aZ:=.f0} (by kernel_rfl!)
def vm:OW:=bj { txt:=U 0x7465672e6c61636f6c,code:=Y 32,aZ:=.f7} (by kernel_rfl!)
def Ay:OW:=bj { txt:=U 0x7262,code:=Y 12,aZ:=.f2} (by kernel_rfl!)
def jU:OW:=bj { sort:=.id,txt:=U 0x7124} (by kernel_rfl!)
def KZ:OW:=bj { txt:=U 0x656c6261745f7262,code:=Y 14,aZ:=.f3} (by kernel_rfl!)
def K1:OW:=bj { sort:=.int,txt:=U 0x312d,val:=-1,sg:=W} (by kernel_rfl!)
def K2:OW:=bj { txt:=U 0x66695f7262,code:=Y 13,aZ:=.f2} (by kernel_rfl!)
def Az:OW:=bj { sort:=.int,txt:=U 0x36393237363934393234,val:=4294967296} (by kernel_rfl!)
def YQ:OW:=bj { txt:=U 0x7465732e6c61636f6c,code:=Y 33,aZ:=.f7} (by kernel_rfl!)
def YR:OW:=bj { sort:=.int,txt:=U 0x312b,val:=1,sg:=W} (by kernel_rfl!)
def YS:OW:=bj { txt:=U 0x6565742e6c61636f6c,code:=Y 34,aZ:=.f7} (by kernel_rfl!)
def xy:OW:=bj { txt:=U 0x6c6c6163,code:=Y 16,aZ:=.f4} (by kernel_rfl!)
def YT:OW:=bj { txt:=U 0x7465732e6c61626f6c67,code:=Y 36,aZ:=.f8} (by kernel_rfl!)
def YU:OW:=bj { txt:=U 0x7465672e6c61626f6c67,code:=Y 35,aZ:=.f8} (by kernel_rfl!)
def YV:OW:=bj { txt:=U 0x706f72642e61746164,code:=Y 64521,aZ:=.f15} (by kernel_rfl!)
def YW:OW:=bj { txt:=U 0x706f72642e6d656c65,code:=Y 64525,aZ:=.f18} (by kernel_rfl!)
def YX:OW:=bj { txt:=U 0x74696e692e79726f6d656d,code:=Y 64520,aZ:=.f14} (by kernel_rfl!)
def YY:OW:=bj { txt:=U 0x657a69732e79726f6d656d,code:=Y 63,aZ:=.f10} (by kernel_rfl!)
def YZ:OW:=bj { txt:=U 0x79706f632e79726f6d656d,code:=Y 64522,aZ:=.f16} (by kernel_rfl!)
def xA:OW:=bj { txt:=U 0x7463657269646e695f6c6c6163,code:=Y 17,aZ:=.f5} (by kernel_rfl!)
def AA:OW:=bj { txt:=U 0x79706f632e656c626174,code:=Y 64526,aZ:=.f19} (by kernel_rfl!)
def vn:OW:=bj { txt:=U 0x74696e692e656c626174,code:=Y 64524,aZ:=.f17} (by kernel_rfl!)
def Y0:OW:=bj { txt:=U 0x7465672e656c626174,code:=Y 37,aZ:=.f9} (by kernel_rfl!)
def Y1:OW:=bj { txt:=U 0x657a69732e656c626174,code:=Y 64528,aZ:=.f9} (by kernel_rfl!)
def mT:OW:=bj { txt:=U 0x64616f6c2e323369,code:=Y 40,aZ:=.f20,nat:=2} (by kernel_rfl!)
def Y2:OW:=bj { txt:=U 0x333d6e67696c61,cz:=W,al:=W,cut:=U 0x33,num:=Y 3,ex:=2,np:=W} (by kernel_rfl!)
def Y3:OW:=bj { txt:=U 0x303d6e67696c61,cz:=W,al:=W,cut:=U 0x30,num:=Y 0,ex:=0,np:=W} (by kernel_rfl!)
def Y4:OW:=bj { txt:=U 0x363d6e67696c61,cz:=W,al:=W,cut:=U 0x36,num:=Y 6,ex:=3,np:=W} (by kernel_rfl!)
def Y5:OW:=bj { txt:=U 0x353932373639343932343d6e67696c61,cz:=W,al:=W,cut:=U 0x35393237363934393234,num:=Y 4294967295,ex:=32,np:=W} (by kernel_rfl!)
def Y6:OW:=bj { txt:=U 0x3778303d6e67696c61,cz:=W,al:=W,cut:=U 0x377830,num:=Y 7,ex:=3,np:=W} (by kernel_rfl!)
def Y7:OW:=bj { txt:=U 0x393436333834373431323d6e67696c61,cz:=W,al:=W,cut:=U 0x39343633383437343132,num:=Y 2147483649,ex:=32,np:=W} (by kernel_rfl!)
def Eh:OW:=bj { txt:=U 0x65726f74732e343669,code:=Y 55,aZ:=.f20,nat:=3} (by kernel_rfl!)
def Y8:OW:=bj { txt:=U 0x363932373639343932343d6e67696c61,cz:=W,al:=W,cut:=U 0x36393237363934393234,num:=Y 4294967296,ex:=32} (by kernel_rfl!)
def Y9:OW:=bj { txt:=U 0x363932373639343932343d74657366666f,cz:=W,off:=W,cut:=U 0x36393237363934393234,num:=Y 4294967296} (by kernel_rfl!)
def Za:OW:=bj { txt:=U 0x303030305f303030305f3178303d74657366666f,cz:=W,off:=W,cut:=U 0x303030305f303030305f317830,num:=Y 4294967296} (by kernel_rfl!)
def vo:OW:=bj { txt:=U 0x755f3864616f6c2e323369,code:=Y 45,aZ:=.f20,nat:=0} (by kernel_rfl!)
def Zb:OW:=bj { txt:=U 0x345f3d6e67696c61,cz:=W,al:=W,cut:=U 0x345f} (by kernel_rfl!)
def Zc:OW:=bj { txt:=U 0x3d6e67696c61,cz:=W,al:=W,cut:=U 0} (by kernel_rfl!)
def Zd:OW:=bj { txt:=U 0x78303d74657366666f,cz:=W,off:=W,cut:=U 0x7830} (by kernel_rfl!)
def Ze:OW:=bj { txt:=U 0x305f5f313d74657366666f,cz:=W,off:=W,cut:=U 0x305f5f31} (by kernel_rfl!)
def Zf:OW:=bj { txt:=U 0x783d74657366666f,cz:=W,off:=W,cut:=U 0x78} (by kernel_rfl!)
def AB:OW:=bj { txt:=U 0x74736e6f632e343669,code:=Y 66,aZ:=.f12} (by kernel_rfl!)
def Zg:OW:=bj { sort:=.int,txt:=U 0x393436333834373431322d,val:=-2147483649,sg:=W} (by kernel_rfl!)
def Zh:OW:=bj { sort:=.int,txt:=U 0x383436333834373431322b,val:=2147483648,sg:=W} (by kernel_rfl!)
def Yh:OW:=bj { sort:=.int,txt:=U 0x3631363135353930373337303434373634343831,val:=18446744073709551616} (by kernel_rfl!)
def Yi:OW:=bj { sort:=.int,txt:=U 0x393038353737343538363330323733333232392d,val:=-9223372036854775809,sg:=W} (by kernel_rfl!)
def Yj:OW:=bj { sort:=.int,txt:=U 0x383038353737343538363330323733333232392b,val:=9223372036854775808,sg:=W} (by kernel_rfl!)
def Av:OW:=bj { txt:=U 0x6c6c756e2e666572,code:=Y 208,aZ:=.f13} (by kernel_rfl!)
def Yk:OW:=bj { txt:=U 0x313369} (by kernel_rfl!)
def Yl:OW:=bj { sort:=.int,txt:=U 0x3939,val:=99} (by kernel_rfl!)
section
variable{K:bp}{X:KX}{H G:List MO}{s:Nat}{Γ:ct}{ks:List Kd}{e:En}
theorem ja{as:List (EM O)}(a:jr as e H xs)(h:fits xs=W):Ev (ar as) e H (.lst xs):=λK X k=>a _ _ (bI h k)
theorem Ui:∀{a b:List TT},cj (a++b)=cj a++cj b
 | [],_=>rfl
 |x::a,b=>congrArg (mP x :: ·) (Ui (a:=a) (b:=b))
theorem Uj:∀{a:List TT},(cj a).length=a.length:=by
 intro a;induction a with
 |nil=>exact rfl
 |cons x a b=>exact congrArg Nat.succ (b)
theorem AG(h:a.length+b.length<=500):aX (.lst (cj a)) (.lst (cj b)) H=Y (.lst (cj (a++b))):=by
 have:=add_l (H:=H) (xs:=cj a) (y:=.lst (cj b)) (ys:=cj b) rfl (c8 (by rw[VK,Uj,Uj];exact VR h (by decide)));rw[this,Ui]
def jL(n:Nat)(ws:List TT):List TT:=acd n (.w W0)++ws
def jP(k n:Nat)(ws:List TT):List TT×Nat:=match k with
 |0=>(jL n ws,n)
 |1=>([.w W1,.w W2]++jL n ws,2+n)
 |2=>([.l ([.w W3,.w W4]++jL n ws)],3+n)
 |3=>([.l [.w W5,.l [.w W6,.w W7],.l ([.w W8]++jL n ws)]],7+n)
 |_=>([.l [.w W5,.w W4,.l [.w W8,.w W0],.l ([.w W9]++jL n ws)]],8+n)
theorem afs{n:Nat}(a:n < 4):qi (.lst [.str fH]) (.int n) H=Y (.lst (cj (acd n (.w W0)))):=jg (P:=λn=>qi (.lst [.str fH]) (.int n) H=Y (.lst (cj (acd n (.w W0))))) rfl rfl rfl rfl n a
theorem RJ{k n:Nat}{ws:List TT}(p:k < 5)(A:n < 4)(hw:ws.length<=100)(h:K (.tup [.lst (cj (jP k n ws).1),.int (jP k n ws).2]) H):vO [.int k,.int n,.lst (cj ws)] H K X:=by
 unfold vO;rw[dU];show AQ [Y (.int k),Y (.int n),Y (.lst (cj ws)),Sa] H (d6 K) (λC fs _ H=>X C fs H);unfold AQ;have z:(jL n ws).length<=110:=by unfold jL;rw[VK,amm];lia
 refine dz (v:=.lst (cj (jL n ws))) (bB (bB (ja (aj ax aC) rfl) (af rfl) (afs A)) (af rfl) (AG (by rw[amm];lia))) ?_;generalize hq:jL n ws=i at z;have j:∀{a:O}{x:TT},a=mP x->aX (.lst [a]) (.lst (cj i)) H=Y (.lst (cj ([x]++i))):=λe=>by rw[e];exact AG (a:=[_]) (by show 1+i.length<=500;lia)
 have m:∀{a b:O}{x y:TT},a=mP x->b=mP y->aX (.lst [a,b]) (.lst (cj i)) H=Y (.lst (cj ([x,y]++i))):=λe f=>by rw[e,f];exact AG (a:=[_,_]) (by show 2+i.length<=500;lia)
 revert h;revert p;revert k;refine@zh _ (λh=>?_) (λh=>?_) (λh=>?_) (λh=>?_) (λh=>?_)
 .refine bM (bb (af rfl) ax rfl) (mN (c9 (aj (af rfl) (aj (af rfl) aC)) rfl) ?_);rw[show jP 0 n ws=(jL n ws,n) from rfl,hq]at h;exact h
 .refine bL (bb (af rfl) ax rfl) (bM (bb (af rfl) ax rfl) (mN (c9 (aj (bB (ja (aj ax (aj ax aC)) rfl) (af rfl) (m (x:=.w W1) (y:=.w W2) rfl rfl)) (aj (bB (v:=.int (2+n:Nat)) ax (af rfl) (show Y (O.int (2+n))=_ by norm_cast)) aC)) rfl) ?_));rw[show jP 1 n ws=([.w W1,.w W2]++jL n ws,2+n) from rfl,hq]at h;exact h
 .refine bL (bb (af rfl) ax rfl) (bL (bb (af rfl) ax rfl) (bM (bb (af rfl) ax rfl) (mN (c9 (aj (ja (aj (bB (ja (aj ax (aj ax aC)) rfl) (af rfl) (m (x:=.w W3) (y:=.w W4) rfl rfl)) aC) rfl) (aj (bB (v:=.int (3+n:Nat)) ax (af rfl) (show Y (O.int (3+n))=_ by norm_cast)) aC)) rfl) ?_)));rw[show jP 2 n ws=([.l ([.w W3,.w W4]++jL n ws)],3+n) from rfl,hq]at h;exact h
 .refine bL (bb (af rfl) ax rfl) (bL (bb (af rfl) ax rfl) (bL (bb (af rfl) ax rfl) (bM (bb (af rfl) ax rfl) (mN (c9 (aj (ja (aj (ja (aj ax (aj (ja (aj ax (aj ax aC)) rfl) (aj (bB (ja (aj ax aC) rfl) (af rfl) (j (x:=.w W8) rfl)) aC))) rfl) aC) rfl) (aj (bB (v:=.int (7+n:Nat)) ax (af rfl) (show Y (O.int (7+n))=_ by norm_cast)) aC)) rfl) ?_))));rw[show jP 3 n ws=([.l [.w W5,.l [.w W6,.w W7],.l ([.w W8]++jL n ws)]],7+n) from rfl,hq]at h;exact h
 .refine bL (bb (af rfl) ax rfl) (bL (bb (af rfl) ax rfl) (bL (bb (af rfl) ax rfl) (bL (bb (af rfl) ax rfl) ((cy (c9 (aj (ja (aj (ja (aj ax (aj ax (aj (ja (aj ax (aj ax aC)) rfl) (aj (bB (ja (aj ax aC) rfl) (af rfl) (j (x:=.w W9) rfl)) aC)))) rfl) aC) rfl) (aj (bB (v:=.int (8+n:Nat)) ax (af rfl) (show Y (O.int (8+n))=_ by norm_cast)) aC)) rfl) ?_)))));rw[show jP 4 n ws=([.l [.w W5,.w W4,.l [.w W8,.w W0],.l ([.w W9]++jL n ws)]],8+n) from rfl,hq]at h;exact h
end
abbrev Row:=List TT×Str×Int
def jk:List Row:=[([.w lP],aq,0),([.w mS],aq,0),([.w lh],aq,0),([.w Ym],aq,0),([.w W8],aq,0),([.w Yn],aq,0),([.w Yo],aq,0),([.w Yp],aq,0),([.w KU],aq,0),([.w Yq],aq,0),([.w Yr],aq,0),([.w Ys],aq,0),([.w Yt],aq,0),([.w Yu],aq,0),([.w Yv],aq,0),([.w Yw],aq,0),([.w Yx],aq,0),([.w Yy],aq,0),([.w Yz],aq,0),([.w YA],aq,0),([.w jx],aq,0),([.w KV],aq,0),([.w YB],aq,0),([.w YC],aq,0),([.w Aw],aq,0),([.w KW],aq,0),([.w Ax],aq,0),([.w YD],eN,0),([.w YE],eN,0),([.w YF],eN,0),([.w YG],Se,(-1)),([.w YH],Sf,(-1)),([.w YI],Sy,(-1)),([.w YJ],Sj,(-1)),([.w YK],Si,(-1)),([.w YL],Sk,(-1)),([.l [.w YM,.l [.w W0]]],JB,(-2)),([.w tJ,.l [.w lh,.w YN]],yE,(-4)),([.w W1,.l [.w lh,.w YO],.w eX],vU,(-4)),([.w W3,.l [.w mS,.w YP],.w eX],yD,(-4))]
def zI:List Row:=[([.w eX],aq,0),([.w W9],aq,0),([.w W1,.w W0],aq,0),([.w W3,.w W5,.w W0,.w eX],aq,0),([.w W1,.w W3],aq,1),([.w W5,.w W4],aq,0),([.w W1,.w W4,.w eX,.w Eg],mq,3),([.w W3,.w eX,.w W4],mq,2),([.w W5,.w W9,.w W4,.w eX],mq,2),([.w W5,.w W9,.w W9,.w eX],aq,2),([.w W3,.w W9,.w eX],aq,1),([.w W5,.w W0,.w eX,.w xw],aq,3),([.w W5,.w W9,.w dP,.w eX],aq,2),([.w W1,.w W4,.w eX,.w W4,.w W4],aq,4),([.w W1,.w W4,.w Eg,.w eX],aq,2),([.w xw],aq,0),([.w pz],aq,0),([.w xx],eN,0),([.l [.w KY,.w W7]],aq,2),([.l [.w vm,.w dP,.w W0]],aq,3),([.l [.w KY,.w W0]],aq,2),([.l [.w W5,.l [.w W0]]],aq,1),([.l [.w W5,.l [.w W8],.l [.w W8]]],aq,4),([.l [.w W5,.l [.w W8],.l [.w W9],.l [.w W9]]],aq,6),([.l [.w W5,.l [.w W8],.w W0]],aq,4),([.l [.w W5,.w W0,.l [.w W8]]],aq,2),([.l [.w W5,.l [.w W9],.l [.w W8]]],aq,3),([.l []],aq,0),([.l [.w W4,.w W0]],aq,0),([.l [.w xw]],aq,0),([.l [.w xx]],aq,0),([.l [.l [.w W0]]],aq,0),([.l [.w W1,.w eX]],aq,2),([.l [.w W1,.l [.w W9]]],aq,3),([.l [.w W8]],aq,1),([.l [.w W1,.w W4,.w Eg]],aq,3),([.l [.w W3,.w W1,.w W0]],aq,2),([.l [.w W5,.l [.w W8,.w W1]]],aq,4),([.l [.w W5,.l [.w W8],.l [.w W9,.w W3,.w W0]]],aq,6)]
def zJ:List Row:=[([.w Ay,.w jU],DB,1),([.w KZ,.w dP,.w jU],DB,2),([.w Ay],aq,0),([.w KZ],aq,0),([.w Ay,.w K1],aq,1),([.w Ay,.w dP,.w dP],aq,2),([.w K2,.w xx],eN,1),([.w K2,.w Az],iU,1),([.w YQ,.w jU],Su,1),([.w vm],aq,0),([.w vm,.l [.w W0]],aq,1),([.w vm,.w YR],aq,1),([.w YS,.w Az],iU,1),([.w vm,.w W0],aq,1),([.w vm,.w dP,.w dP],aq,2),([.w xy],aq,0),([.w xy,.l [.w W0]],aq,1),([.w xy,.w dP,.w dP],aq,2),([.w xy,.w jU],Sq,1),([.w xy,.w Az],iU,1),([.w YT,.w K1],aq,1),([.w YU,.w jU],Ss,1),([.w YV,.w jU],Sm,1),([.w YW,.w jU],wH,1),([.w YX],aq,0),([.w YY,.w dP],aq,1),([.w YZ,.w dP],aq,1),([.w xA,.w jU],oW,1),([.w xA,.w dP,.w dP],aq,2),([.w AA,.w dP],aq,1),([.w AA,.w dP,.w dP,.w dP],aq,3),([.w vn],aq,0),([.w vn,.l [.w W0]],aq,1),([.w vn,.w dP,.w dP,.w dP],aq,3),([.w Y0,.w dP,.w dP],aq,2),([.w vn,.w dP,.w jU],wH,2),([.w vn,.w jU,.w dP],oW,1),([.w vn,.w jU],wH,1),([.w Y1,.w jU],oW,1),([.w AA,.w jU,.w dP],oW,1),([.w AA,.w dP,.w jU],oW,2)]
def c5:List Row:=[([.w mT,.w Y2],ng,1),([.w mT,.w Y3],ng,1),([.w mT,.w Y4],ng,1),([.w mT,.w Y5],ng,1),([.w mT,.w Y6],ng,1),([.w mT,.w Y7],ng,1),([.w Eh,.w Y8],iU,1),([.w Eh,.w Y9],iU,1),([.w Eh,.w Za],iU,1),([.w vo,.w Zb],eN,1),([.w vo,.w Zc],eN,1),([.w vo,.w KW],eN,1),([.w vo,.w Zd],eN,1),([.w vo,.w Ze],eN,1),([.w vo,.w Zf],eN,1),([.w mT,.w Ax,.w Aw],aq,2),([.w mT,.w Aw,.w Aw],aq,2),([.w mT,.w Ax,.w Ax],aq,2),([.w mT,.w xw],aq,1),([.w mT,.w pz],aq,1),([.w W6],aq,0),([.l [.w W6]],aq,1),([.l [.w W6,.l [.w W0]]],aq,2),([.w W6,.w pz],aq,1),([.w W6,.w W0],aq,1),([.w AB,.w xx],eN,1),([.w W6,.w W7,.w W7],aq,2),([.w W6,.w Az],jF,1),([.w W6,.w Zg],jF,1),([.w W6,.w Zh],jF,1),([.w AB,.w Yh],jF,1),([.w AB,.w Yi],jF,1),([.w AB,.w Yj],jF,1)]
def zK:List Row:=[([.w Av],aq,0),([.w Av,.w xw],aq,1),([.w Av,.w jx],aq,1),([.l [.w Av,.l [.w KU]]],aq,2),([.w tJ,.l [.w lh,.w Yk]],aq,3),([.w tJ,.l [.w lh,.l [.w jx]]],aq,3),([.w tJ,.l [.w lh,.w pz]],aq,3),([.w tJ,.l [.w lh,.w xx]],eN,3),([.w W1,.l [.w lh,.l [.w W0]],.w eX],aq,3),([.w W3,.l [.w mS,.l [.w jx]],.w eX],aq,3),([.w tJ,.l [.w lh,.w jx],.l [.w lP,.w dP]],aq,5),([.w tJ,.l [.w mS,.w jx]],aq,2),([.w W1,.l [.w mS,.w pz,.w jx],.w eX],aq,1),([.w W3,.l [.w lP,.w dP],.l [.w mS,.w pz,.w jx],.w eX],aq,1),([.w xA,.l [.w mS,.w pz,.w jx]],aq,1),([.w xA,.w dP,.l [.w mS,.w pz,.w jx]],aq,2),([.w W1,.l [.w lh,.w jx],.l [.w mS,.w jx],.w eX],aq,5),([.w W1,.l [.w mS,.w jx],.l [.w lP,.w dP],.w eX],aq,5),([.w W1,.l [.w lh,.w jx],.l [.w lP,.w dP],.w eX],aq,5),([.w W1,.l [.w lP,.w dP,.w dP],.w eX],aq,4),([.w W1,.l [.w lP],.w eX],aq,1),([.w W1,.l [.w lP,.w jU],.w eX],Sv,3),([.w W3,.l [.w lP,.w Yl],.l [.w lh,.w jx],.w eX],Sw,1),([.w W1,.l [.w lP,.w dP],.l [.w mS,.w KV],.w eX],s8,1),([.w xA,.l [.w lP,.w dP],.l [.w lP,.w dP]],aq,5),([.w W5,.l [.w lh,.w pz,.w jx],.w W9,.w eX],aq,3)]
def lI:List Row:=jk++zI++zJ++c5++zK
noncomputable def qe:Nat->List Row->List Row
 |_,[]=>[]
 |0,x::r=>x::qe 2 r
 |n+1,_::r=>qe n r
def jJ:List TT->Bool
 | [.w o]=>dF o.1.txt cA
 |_=>UA
noncomputable def Γ0:ct:=λ_=>[]
def L0:List (Str×Int):=[(ko,3)]
def qx(b f:Nat)(ks:List Kd)(x:Row):Bool×List Kd :=
 let i:=jP (cond (VH b 1&&jJ x.1) 0 b) f x.1
 let h:Nat:=match x.2.2 with | .ofNat n=>n | .negSucc n=>n
 let a:=i.2+h
 match k6 Γ0 L0 200 ks (gG 0 i.1).1 with
 | .bad w r c e=>(match x.2.2 with | .ofNat _=>dF w x.2.1&&(VH r (1+a / 7)&&VH c (1+a % 7))| .negSucc _=>UA,e)
 | .left w r e=>(match x.2.2 with | .ofNat _=>UA | .negSucc _=>dF w x.2.1&&VH r (1+a / 7),e)
 |_=>(UA,ks)
def wQ(e a:Nat):List Kd->List Row->Bool
 |_,[]=>W
 |ks,x::r=>match qx e a ks x with|(b,ks')=>cond b (wQ e a ks' r) UA
section
variable{K:bp}{X:KX}{H G:List MO}{e:En}
def gV(x:Row):O:=.tup [.lst (cj x.1),.str x.2.1,.int x.2.2]
def Aa(a:EM O)(q:En):List O->List O->Prop
 | [],[]=>True
 |y::r,z::s=>(∀H,Ev a (some y::q) H z)/\Aa a q r s
 |_,_=>False
theorem abj{b:EM O}{q:En}{i:Nat}(m:H[i]?=Sa):∀(t u acc:List O) (G:List MO),acc.length+t.length<=4000->Aa b q t u->Le H G->G[i]?=Y (.lst acc)->(∀G,Le H G->K (.lst (acc++u)) G)->pF b [] q i (λG=>lY i G K) X t G:=by
 intro t;induction t with
 |nil =>
  intro u acc G _ f le j h;induction u using cL with
  |cons _ _=>exact f.elim
  |nil=>exact oI (a:=acc) (by rw[j];rfl) (af1 acc▸h _ (le.st m .dead))
 |cons y t p =>
  intro u acc G l f le j h;induction u using cL with
  |nil=>exact f.elim
  |cons z u =>
   refine f.1 G _ _ (oI (a:=G.set i (.lst (acc++[z]))) ?_ ?_)
   .unfold qQ;rw[j];show gd (fits acc) _=_;rw[show fits acc=W from c8 (VR (akx _ _) (VR l (by decide)))];rfl
   .refine p u (acc++[z]) _ (by rw[VK];exact VR (ak4 (anE _ _)) l) f.2 (le.st m _) (eS j _) λG le=>?_;rw[akn];exact h G le
theorem pG{a b:EM O}{x:O}{ys zs:List O}(i:Ev a e H x)(hx:Qm x=Y ys)(j:bw ys 2000=W)(f:Aa b [] ys zs)(h:∀G,Le H G->K (.lst zs) G):gw (iQ a) [] b [] e H K X:=by
 refine cast xU.symm (oI (a:=[]) rfl (i _ _ (oI hx ?_)));exact abj (iJ H) ys zs [] _ (VR (ak4 (akE _)) (VR (c7 j) (by decide))) f (Le.n H _) (ef H _) λG le=>h G le
theorem tP{f:O->O->List MO->Option O}(h:Ev a e H x)(k:b e H (λy H=>oP (f x y H) λv=>K v H) X):ao f a b e H K X:=h _ _ k
theorem aaD(h:K (.lst (zI.map gV)) H):BM [] H K X:=by
 unfold BM;rw[dU];exact h
theorem aed(h:K (.lst (zJ.map gV)) H):BN [] H K X:=by
 unfold BN;rw[dU];exact h
theorem aeO(h:K (.lst (zK.map gV)) H):BO [] H K X:=by
 unfold BO;rw[dU];exact h
end
end
local macro_rules | `(tactic|walk_at "kk")=>`(tactic|repeat first|exact trivial|refine⟨λ_ _ _ k=>k,?_⟩)
section
open PySem PySem.W
section
variable{K:bp}{X:KX}{H G:List MO}{e:En}
noncomputable abbrev zz(l:List Row)(a n:Nat):List O:=((l.drop a).take n).map gV
noncomputable abbrev hh(l:List Row)(a n:Nat):List O:=((l.drop a).take n).map λx=>match cj x.1 with|y::_=>y | []=>.none
noncomputable abbrev h2(l:List Row)(a n:Nat):List O:=((l.drop a).take n).map λx=>match cj x.1 with|_::y::_=>y|_=>.none
noncomputable abbrev h3(l:List Row)(a n:Nat):List O:=((l.drop a).take n).map λx=>match cj x.1 with|_::r=>.tup r|_=>.none
noncomputable abbrev tk(l:List Row)(a n:Nat):List Row:=(l.drop a).take n
theorem ek{a:EM O}{v:O}(h:(λK X=>a e H K X)=λK _=>K v H):Ev a e H v:=λK X k=>cast (congrFun (congrFun h K) X).symm k
theorem Ol{m:Nat}{b:SM}(h:b (dS m) H (d6 K) λC fs _ H=>X C fs H):sl (bl 0 [] m b) [] H K X:=by rw[dU];exact h
theorem aiF(h:∀G,Le H G->K (.lst (jk.map gV)) G):BQ [] H K X:=by
 unfold BQ;refine Ol ?_;unfold EC;refine dz (v:=.str Sl) ax ?_;refine fo ?_;refine pG (x:=.lst (hh jk 0 27)) (ys:=hh jk 0 27) (zs:=(zz jk 0 27)) (ek rfl) rfl rfl (by walk_at "kk") λG0 a=>?_;refine fo ?_;show ao aX ay _ _ _ _ _;refine tP (af rfl) ?_;refine pG (x:=.tup (hh jk 27 3)) (ys:=hh jk 27 3) (zs:=(zz jk 27 3)) (ek rfl) rfl rfl (by walk_at "kk") λi b=>oI (add_l rfl (by decide +kernel)) ?_;refine dz (v:=.lst (hh jk 30 6)) (ek rfl) ?_;refine fo ?_;show ao aX ay _ _ _ _ _;refine tP (af rfl) ?_;refine pG (x:=.lst (hh jk 30 6)) (ys:=hh jk 30 6) (zs:=(zz jk 30 6)) (af rfl) rfl rfl (by walk_at "kk") λj f=>oI (add_l rfl (by decide +kernel)) ?_;refine dz (bB (y:=.lst (zz jk 36 2)) (af rfl) (ek rfl) (add_l rfl (by decide +kernel))) ?_;refine cy (bB (y:=.lst (zz jk 38 2)) (af rfl) (ek rfl) (add_l rfl (by decide +kernel))) ?_;exact h _ ((a.t b).t f)
theorem nF:zz c5 0 6++zz c5 6 3++zz c5 9 6++zz c5 15 3++zz c5 18 3++zz c5 21 3++zz c5 24 3++zz c5 27 3++zz c5 30 3=c5.map gV:=by
 simp only[←akG];exact congrArg (List.map gV) (rfl:tk c5 0 6++tk c5 6 3++tk c5 9 6++tk c5 15 3++tk c5 18 3++tk c5 21 3++tk c5 24 3++tk c5 27 3++tk c5 30 3=c5)
theorem afM(h:∀G,Le H G->K (.lst (c5.map gV)) G):BP [] H K X:=by
 unfold BP;refine Ol ?_;unfold EB;refine fo ?_;refine pG (x:=.tup [.str u0,.str dq,.str u4,.str Dm,.str Jy,.str Dk]) (ys:=[.str u0,.str dq,.str u4,.str Dm,.str Jy,.str Dk]) (zs:=(zz c5 0 6)) (ek rfl) rfl rfl (by walk_at "kk") λG0 a=>?_;refine fo ?_;show ao aX ai _ _ _ _ _;refine tP (af rfl) ?_;refine pG (x:=.tup (h2 c5 6 3)) (ys:=h2 c5 6 3) (zs:=(zz c5 6 3)) (ek rfl) rfl rfl (by walk_at "kk") λm b=>oI (add_l rfl (by decide +kernel)) ?_;refine fo ?_;show ao aX ai _ _ _ _ _;refine tP (af rfl) ?_;refine pG (x:=.tup (h2 c5 9 6)) (ys:=h2 c5 9 6) (zs:=(zz c5 9 6)) (ek rfl) rfl rfl (by walk_at "kk") λp f=>oI (add_l rfl (by decide +kernel)) ?_;refine dz (v:=.lst (h3 c5 15 3)) (ek rfl) ?_;refine fo ?_;show ao aX ai _ _ _ _ _;refine tP (af rfl) ?_;refine pG (x:=.lst (h3 c5 15 3)) (ys:=h3 c5 15 3) (zs:=(zz c5 15 3)) (af rfl) rfl rfl (by walk_at "kk") λw i=>oI (add_l rfl (by decide +kernel)) ?_;refine dz (bB (y:=.lst (zz c5 18 3)) (af rfl) (ek rfl) (add_l rfl (by decide +kernel))) ?_;refine dz (bB (y:=.lst (zz c5 21 3)) (af rfl) (ek rfl) (add_l rfl (by decide +kernel))) ?_;refine dz (bB (y:=.lst (zz c5 24 3)) (af rfl) (ek rfl) (add_l rfl (by decide +kernel))) ?_;refine fo ?_;show ao aX ai _ _ _ _ _;refine tP (af rfl) ?_;refine pG (x:=.tup (h2 c5 27 3)) (ys:=h2 c5 27 3) (zs:=(zz c5 27 3)) (ek rfl) rfl rfl (by walk_at "kk") λz j=>oI (add_l rfl (by decide +kernel)) ?_;refine dz (v:=.tup (h2 c5 30 3)) (ek rfl) ?_;refine u9 ?_;show ao aX ai _ _ _ _ _;refine tP (af rfl) ?_;refine pG (x:=.tup (h2 c5 30 3)) (ys:=h2 c5 30 3) (zs:=(zz c5 30 3)) (af rfl) rfl rfl (by walk_at "kk") λA l=>oI (add_l rfl (by decide +kernel)) ?_;rw[nF];exact h _ (((((a.t b).t f).t i).t j).t l)
def G0:List MO:=[.dead,.inst 770 [(iS,.ref 2),(mn,.ref 3),(fg,.ref 4)],.bu (Ii 1),.bu (IU 0),.lst [],.bu [],.bu [],.bu [],.bu [],.bu [],.bu [],.bu []]
theorem ahV(h:K (.ref 1) G0):xM [] [.dead] K X:=by
 unfold xM;rw[dU];show BE [.ref 1] [.dead,.inst 770 []] _ _;unfold BE;refine fun1 ?_;unfold Er;show jt az (.nm 1) (aL FC) _ [Y (.ref 1),Sa] [.dead,.inst 770 [(iS,.ref 2),(mn,.ref 3),(fg,.ref 4)],.bu [],.bu [],.lst []] _ _;refine cast B1.symm ?_;exact h
end
noncomputable def y9:List Kd:=[([-1],[])]
noncomputable def l6(k n:Nat):List (List Int):=([acd n [1],[2,-64]::(acd n [1]++[[11]]),[3,-64]::(acd n [1]++[[11]]),[65,1]::[4,-64]::(acd n [1]++[[11]]),[4,-64]::[1]::[5]::(acd n [1]++[[11]])]:List (List (List Int))).getD k []
def n9(k n:Nat):List TT:=(jP k n []).1++cond (VH k 1) [.w eX,.w W2] []
def A6(k n t:Nat):Bool:=match k6 Γ0 [] 200 y9 (gG 0 (n9 k n)).1 with
 | .ok c=>decide (c.body=l6 k n++[[11]])&&wQ k n c.ks (qe t lI)
 |_=>UA
def Z6:Bool:=(akk 5).all λk=>(akk 4).all λn=>(akk 3).all λt=>A6 k n t
theorem Z8:Z6=W:=by decide +kernel
theorem tN{k:Nat}{p:Nat->Bool}(h:(akk n).all p=W)(a:k < n):p k=W:=WO.mp h k (aqd.mpr a)
theorem abe{k:Nat}(a:k < 5)(b:n < 4)(e:t < 3):A6 k n t=W:=tN (tN (tN Z8 a) b) e
theorem acP{k:Nat}(a:k < 5)(b:n < 4):Fw k n=i9 (l6 k n):=by
 revert b;revert n;revert a;revert k;exact@zh _ (@jg _ rfl rfl rfl rfl) (@jg _ rfl rfl rfl rfl) (@jg _ rfl rfl rfl rfl) (@jg _ rfl rfl rfl rfl) (@jg _ rfl rfl rfl rfl)
theorem afB{k:Nat}(e:k < 5)(f:n < 4)(a:G[b]?=Y (.lst (i9 (l6 k n++[[11]])))):dk (.ref b) (.lst (i9 (l6 k n++[[11]]))) G=Y UA:=by
 unfold dk bf ji wd;have e1:listOf G (.ref b)=Y (i9 (l6 k n++[[11]])):=kU a;have e2:toPy G cY (.ref b)=toPy G cY (.lst (i9 (l6 k n++[[11]]))):=by
  show(((G[b]?).bind zf).bind λxs=>(eQ (toPy G 49) xs).map amd)=_;rw[a];rfl
 rw[e1,e2];clear a e1 e2;revert f;revert n;revert e;revert k;exact@zh _ (@jg _ rfl rfl rfl rfl) (@jg _ rfl rfl rfl rfl) (@jg _ rfl rfl rfl rfl) (@jg _ rfl rfl rfl rfl) (@jg _ rfl rfl rfl rfl)
section
variable{K:bp}{X:KX}{H G:List MO}{e:En}
def wX(t:List TT):Bool:=k4 8 t&&gX (.br (gG 0 t).1 0 0)
def JI(k n:Nat)(x:Row):Bool:=wX (jP (cond (VH k 1&&jJ x.1) 0 k) n x.1).1&&bw x.1 100
def ahz:Bool:=(akk 5).all λk=>(akk 4).all λn=>wX (n9 k n)&&lI.all λx=>JI k n x
theorem ahA:ahz=W:=by decide +kernel
noncomputable def iI(is:List Int)(i:Nat):Int:=(is[i]?).getD 0
theorem E7(b:is.length<=63)(i:Nat):Ev ar6 [Y (.int i),Y (.lst (is.map .int))] H (.int (iI is i)):=by
 have fl:fits (is.map O.int)=W:=c8 (by rw[VO];exact VR b (by decide));have a:Ev (b7 ay) [Y (.int i),Y (.lst (is.map .int))] H (.int is.length):=de (af rfl) (by
  show alt (gd (fits (is.map O.int)) (Y (O.int (is.map O.int).length))) _=_;rw[fl,VO];rfl)
 by_cases h:i < is.length
 .refine lp (bb (af rfl) a (lH (t:=W) (ab8 (akq.mpr h)))) (bB (af rfl) (af rfl) ?_);exact Qq (by rw[aeQ];unfold iI;rw[alR h];rfl) (VT h (VR b (by decide))) _
 .rw[show iI is i=0 from by unfold iI;rw[WN (apI h)];rfl];exact jz (bb (af rfl) a (lH (t:=UA) (ahR λq=>h (akq.mp q)))) ax
theorem Fx(a:Int)(m:Nat)(hm:0 < m):∃k:Nat,k < m/\a.fmod m=(k:Int):=by
 have p:(0:Int)< m:=akq.mpr hm;rw[Int.fmod_eq_emod_of_nonneg a (anA p)];have e:=aor (Int.emod_nonneg a (Int.ne_of_gt p));exact⟨(a % m).toNat,akq.mp (e▸Int.emod_lt_of_pos a p),e.symm⟩
def Af:List MO:=[.dead,.inst 770 [(iS,.ref 2),(mn,.ref 3),(fg,.ref 4)],.bu (Ii 1),.bu (IU 0),.lst (y9.map cR),.bu [],.bu [],.bu [],.bu [],.bu [],.bu [],.bu []]
theorem ahX{K:List O->List MO->Prop}(h:qw v=Y ys)(k:K ys H):SrcR (aL v) e H K X:=by
 show oP (qw v) _;exact oI h k
theorem acf{k:Nat}{ifs:List (EM Bool)}(h:(H[k]?).bind mL=Y xs)(q:K (.lst xs) (H.set k .dead)):pF elt ifs fr k (λG=>lY k G K) X [] H:=by
 show oP ((H[k]?).bind mL) _;exact oI h q
theorem ach{k:Nat}(a:k < 5)(he:e[2]?=Y (Y (.int k))):Ev arE e H (.lst (cj (cond (VH k 1) [.w eX,.w W2] []))):=by
 revert he;revert a;revert k;have no:∀{k:Nat},(bf (.int k) (.int 1) H=Y UA)->VH k 1=UA->e[2]?=Y (Y (.int k))->Ev arE e H (.lst (cj (cond (VH k 1) [.w eX,.w W2] []))) :=
  λh q he=>jz (bb (af he) ax h) (by rw[q];exact ja aC rfl)
 exact@zh _ (no rfl rfl) (λhe=>lp (bb (af he) ax rfl) (ja (aj ax (aj ax aC)) rfl)) (no rfl rfl) (no rfl rfl) (no rfl rfl)
theorem agg{k:Nat}(a:n < 4)(hw:ws.length<=100):(jP k n ws).1.length<=110:=by
 have h:(jL n ws).length<=103:=by
  unfold jL;rw[VK,amm];exact Nat.add_le_add (alv a) hw
 cases k with
 |zero=>exact VR h (by decide)
 |succ k =>
  cases k with
  |zero=>exact VR (akL (akL h)) (by decide)
  |succ k=>cases k with
   |zero=>exact WG rfl
   |succ k=>cases k<;>exact WG rfl
theorem Tx{k:Nat}(f:k < 5)(h:n < 4):wX (n9 k n)=W/\∀x∈lI,JI k n x=W :=bt (tN (tN ahA f) h) λa b=>⟨a,WO.mp b⟩
theorem Tw(h:wX t=W):k4 8 t=W/\Ps (gG 0 t).1 0 (gG 0 t).1:=by
 unfold wX at h;rw[VG]at h;exact⟨h.1,Ps.of h.2⟩
theorem abd{k:Nat}(h:A6 k n t=W):∃c,k6 Γ0 [] 200 y9 (gG 0 (n9 k n)).1 = .ok c/\c.body=l6 k n++[[11]]/\wQ k n c.ks (qe t lI)=W:=by
 unfold A6 at h;cases e:k6 Γ0 [] 200 y9 (gG 0 (n9 k n)).1<;>rw[e]at h<;>first|exact bD h|exact bt h λh1 h2=>⟨_,rfl,WE h1,h2⟩
theorem aaW(f:Ev a e H x)(hb:∀G,Ev b e G y)(k:F2 [y,.ref (H++[MO.bu fs]).length] ((H++[MO.bu fs])++[MO.lst [.int n]]) (λv G=>F [x,.ref H.length,v] G K X) X):aA F [a,pf fs,aA F2 [b,gj [aL (.int n)]]] e H K X:=by
 refine f _ _ ?_;show b e (H++[MO.bu fs]) _ _;exact hb _ _ _ k
theorem aaX(f:Ev a e H x)(hb:∀G,Ev b e G y)(k:F2 [y,.ref H.length] (H++[.lst [.int n]]) (λv G=>F [x,v] G K X) X):aA F [a,aA F2 [b,gj [aL (.int n)]]] e H K X:=by
 refine f _ _ ?_;show b e H _ _;exact hb _ _ _ k
theorem acQ:((akk 5).all λk=>(akk 4).all λn=>af0 (l6 k n).length 20)=W:=by decide +kernel
theorem acR{k:Nat}(a:k < 5)(b:n < 4):(l6 k n).length<=20:=WG (tN (p:=λn=>af0 (l6 k n).length 20) (tN acQ a) b)
theorem ae0:jk.length<=60/\zI.length<=60/\zJ.length<=60/\c5.length<=60/\zK.length<=60:=by decide +kernel
theorem ahE{C:SM}{K:KF}{X:KE}(k:C e H K X):bh e H (lJ C K X) X:=k
theorem AY{f:O->O->List MO->Option O}(k:A e H (λx H=>B e H (λy H=>oP (f x y H) λv=>K v H) X) X):ao f A B e H K X:=k
theorem ahH{t:Nat}(a:t < 3):mF (.lst (jk.map gV++zI.map gV++zJ.map gV++c5.map gV++zK.map gV)) (Y t) Sa (Y 3) H=Y (.lst ((qe t lI).map gV)):=ka (P:=λt=>mF (.lst (jk.map gV++zI.map gV++zJ.map gV++c5.map gV++zK.map gV)) (Y t) Sa (Y 3) H=Y (.lst ((qe t lI).map gV))) (ka (ka wg rfl) rfl) rfl t a
theorem afA(hw:b8 (λx=>aca x 1114112) w.cps.toList=W):dk (.tup [.str w,.int r,.int c]) (.tup [.str w,.int r,.int c]) H=Y UA:=by
 have e:ji (.tup [.str w,.int r,.int c]) (.tup [.str w,.int r,.int c]) H=Y W:=by
  unfold ji;have t:toPy H cY (.tup [.str w,.int r,.int c])=Y (.tuple [.str w,.int r,.int c]):=rfl;rw[t];have o:fM cY (.tuple [.str w,.int r,.int c])=W:=by
   show(cond (b8 (λx=>aca x 1114112) w.cps.toList) _ _)=W;rw[hw];rfl
  show gd (fM cY _&&fM cY _) _=_;rw[o];show Y (aaI _ _)=_;simp[aaI,alL]
 unfold dk bf;show(alt Sa (alt Sa (alt Sa (ji _ _ H)))).bind _=_;rw[e];rfl
theorem afz(hw:b8 (λx=>aca x 1114112) w.cps.toList=W):dk (.tup [.str w,.int r]) (.tup [.str w,.int r]) H=Y UA:=by
 have e:ji (.tup [.str w,.int r]) (.tup [.str w,.int r]) H=Y W:=by
  unfold ji;have t:toPy H cY (.tup [.str w,.int r])=Y (.tuple [.str w,.int r]):=rfl;rw[t];have o:fM cY (.tuple [.str w,.int r])=W:=by
   show(cond (b8 (λx=>aca x 1114112) w.cps.toList) _ _)=W;rw[hw];rfl
  show gd (fM cY _&&fM cY _) _=_;rw[o];show Y (aaI _ _)=_;simp[aaI,alL]
 unfold dk bf;show(alt Sa (alt Sa (alt Sa (ji _ _ H)))).bind _=_;rw[e];rfl
end
def NQ(x:Row):Bool:=match bf (.lst (cj x.1)) (.lst [.str cA]) []with|some b=>cond b (jJ x.1) (bX (jJ x.1))|none=>UA
theorem acg:lI.all NQ=W:=by decide +kernel
def MY(x:Row):Bool:=b8 (λc=>aca c 1114112) x.2.1.cps.toList
theorem aa2:lI.all MY=W:=by decide +kernel
theorem RQ:∀(n:Nat) (x:TT),toPy H n (mP x)=toPy [] n (mP x)
 |0,x=>by cases x<;>rfl
 |n+1,.w o=>rfl
 |n+1,.l xs=>by
  show(eQ (toPy H n) (cj xs)).map _=(eQ (toPy [] n) (cj xs)).map _;have:∀ys:List TT,eQ (toPy H n) (cj ys)=eQ (toPy [] n) (cj ys):=λys=>by
   induction ys with
   |nil=>rfl
   |cons y ys a =>
    show eQ (toPy H n) (mP y::cj ys)=eQ (toPy [] n) (mP y::cj ys);simp only[eQ,RQ n y,a]
  rw[this]
theorem aci(hx:x∈lI)(H:List MO):bf (.lst (cj x.1)) (.lst [.str cA]) H=Y (jJ x.1):=by
 have e:=WO.mp acg x hx;have i:bf (.lst (cj x.1)) (.lst [.str cA]) H=bf (.lst (cj x.1)) (.lst [.str cA]) []:=by
  have:ji (.lst (cj x.1)) (.lst [.str cA]) H=ji (.lst (cj x.1)) (.lst [.str cA]) []:=by
   unfold ji;have z:∀H,toPy H cY (.lst [.str cA])=Y (.list [.str cA]):=λ_=>rfl;rw[z,z,show toPy H cY (.lst (cj x.1))=toPy [] cY (.lst (cj x.1)) from RQ cY (.l x.1)]
  unfold bf;rw[this];rfl
 rw[i];unfold NQ at e
 split at e
 .rename_i b q
  rw[q];cases b<;>cases h:jJ x.1<;>rw[h]at e<;>first|rfl|(exact bD e;done)
 .exact bD e
section
variable{X:KX}{H G:List MO}{e:En}
def DL:SM :=(ak (d8 [6,7] (aA vO [arv,aW,iH])) (ak (bA 12 (ao aX eV arD)) (ak arB (aY (aF dk (aA ue [bz,arK]) ars) (aV (aL (.bool UA))) bh))))
theorem aeP{k:Nat}(h:k < 5)(hx:x∈lI)(h2:e[2]?=Y (Y (.int k)))(f:e[9]?=Y (Y (.lst (cj x.1)))):Ev arv e H (.int (cond (VH k 1&&jJ x.1) 0 k:Nat)):=by
 have a:Ev (aF bf iH (ar [J cA])) e H (jJ x.1):=bb (af f) (ja (aj ax aC) rfl) (aci hx H);by_cases b:k=1
 .subst b;cases q:jJ x.1 with
  |true=>rw[q]at a;exact lp (eY (bb (af h2) ax rfl) (eY a λK X k=>k)) ax
  |false=>rw[q]at a;exact jz (eY (bb (af h2) ax rfl) (gQ a)) (af h2)
 .rw[show VH k 1=UA from Bool.eq_false_iff.mpr λe=>b (VW e)];exact jz (gQ (bb (af h2) ax (nD (VQ.mpr λe=>b (aqs e))))) (af h2)
noncomputable def wx:Int->Nat | .ofNat m=>m | .negSucc m=>m
theorem afS(h:e[11]?=Y (Y (.int i))):Ev arD e H (.int (wx i)):=by
 cases i with
 |ofNat m=>exact lp (bb (af h) ax rfl) (af h)
 |negSucc m=>exact jz (bb (af h) ax rfl) (bB (tY ax rfl) (af h) (show Y (O.int (-1 - apo m))=Y (.int (m:Int)) by rw[show(-1 - apo m:Int)=m by lia]))
theorem ag7{K:bp}(a:e[5]?=Y (Y (.ref 1)))(b:e[6]?=Y (Y (.lst (cj tx))))(l:wX tx=W)(S:da G 1 Γ0 ks)(h:Ec 1 Γ0 K (k6 Γ0 L0 200 ks (gG 0 tx).1)): aA ue [bz,arK] e G K X:=by
 refine a9 (Tw l) λf j=>?_;have m:1+4+6 < G.length:=(WC.mp (S.tb .data)).1;refine aaX (F2:=n8) (x:=.ref 1) (y:=.lst (cj tx)) (n:=(0:Nat)) (af a) (λG=>af b) ?_;unfold n8;refine Qo 8 _ 0 _ _ _ f (ef G _) λF u p=>?_;exact ag9 (n:=200) ((S.le (Le.n G _)).up u λi hi=>sS (by lia)) (by decide) j h
def JG(x:Row)(b:Nat)(K:bp)(a:List Kd):Prop:=match x.2.2 with
 | .ofNat _=>∀G,da G 1 Γ0 a->K (.tup [.str x.2.1,.int (1+b / 7:Nat),.int (1+b % 7:Nat)]) G
 | .negSucc _=>∀G,da G 1 Γ0 a->K (.tup [.str x.2.1,.int (1+b / 7:Nat)]) G
theorem ahb{k:Nat}{K:bp}(h:(qx k n ks x).1=W)(q:JG x ((jP (cond (VH k 1&&jJ x.1) 0 k) n x.1).2+wx x.2.2) K (qx k n ks x).2):Ec 1 Γ0 K (k6 Γ0 L0 200 ks (gG 0 (jP (cond (VH k 1&&jJ x.1) 0 k) n x.1).1).1):=by
 obtain⟨ws,f,i⟩:=x;unfold qx at h q;unfold JG at q;generalize jP (cond (VH k 1&&jJ ws) 0 k) n ws=b at h q ⊢;cases i with
 |ofNat m =>
  dsimp only[wx]at h q;cases z:k6 Γ0 L0 200 ks (gG 0 b.1).1 with
  |stuck=>rw[z]at h;exact bD h
  |ok c=>rw[z]at h;exact bD h
  |left w r a=>rw[z]at h;exact bD h
  |bad w r c a =>
   rw[z]at h q;dsimp only at h q;rw[VG,VG]at h;cases n6 h.1;cases VW h.2.1;cases VW h.2.2;exact q
 |negSucc m =>
  dsimp only[wx]at h q;cases z:k6 Γ0 L0 200 ks (gG 0 b.1).1 with
  |stuck=>rw[z]at h;exact bD h
  |ok c=>rw[z]at h;exact bD h
  |bad w r c a=>rw[z]at h;exact bD h
  |left w r a =>
   rw[z]at h q;dsimp only at h q;rw[VG]at h;cases n6 h.1;cases VW h.2;exact q
theorem abL{K:Bool->List MO->Prop}(j:MY x=W)(a:e[11]?=Y (Y (.int x.2.2)))(f:e[13]?=Y (Y (.tup [.str x.2.1,.int (1+pl / 7:Nat),.int (1+pl % 7:Nat)])))(h:∀G,da G 1 Γ0 ks'->K UA G): JG x pl (λv H=>ars e H (λy H=>oP (dk v y H) λb=>K b H) X) ks':=by
 obtain⟨ws,l,i⟩:=x;cases i with
 |ofNat m=>exactλG S=>(lp (bb (af a) ax rfl) (af f)) _ _ (oI (afA j) (h G S))
 |negSucc m=>exactλG S=>(jz (bb (af a) ax rfl) (qW (af f) ax ax ax rfl rfl rfl rfl)) _ _ (oI (afz j) (h G S))
theorem ahe{k:Nat}(A:k < 5)(B:n < 4)(w:∀e G,KF' .next e G):∀(rs:List Row) (ks:List Kd) (G:List MO) (m p z b f xg a:Option O),(∀x∈rs,x∈lI)->wQ k n ks rs=W->da G 1 Γ0 ks -> forL (.tp [9,10,11]) DL KF' XE' (rs.map gV) [v0,v1,Y (.int k),Y (.int n),Y (.int t),Y (.ref 1),m,p,v8,z,b,f,xg,a] G:=by
 intro rs;induction rs with
 |nil =>
  exact@λks G m p z b f xg a _ _ _=>w _ _
 |cons x rs C =>
  exact@λks G m p z b f xg a hx j S=>by
   refine Fy (e':=[v0,v1,Y (.int k),Y (.int n),Y (.int t),Y (.ref 1),m,p,v8,Y (.lst (cj x.1)),Y (.str x.2.1),Y (.int x.2.2),xg,a]) rfl ?_;have hm:=hx x (WL ..);have l:=(Tx A B).2 x hm;unfold JI at l;rw[VG]at l;have y:(cond (VH k 1&&jJ x.1) 0 k)< 5:=by cases (VH k 1&&jJ x.1)<;>simp only[cond_true,cond_false]<;>lia
   unfold DL;refine i6 ?_;refine cG (aj (aeP A hm rfl rfl) (aj (af rfl) (aj (af rfl) aC))) (RJ y B (c7 l.2) ?_);refine oI rfl ?_;refine dz (v:=.int ((jP (cond (VH k 1&&jJ x.1) 0 k) n x.1).2+wx x.2.2:Nat)) (bB (af rfl) (afS rfl) (show Y (O.int (_+_))=_ by norm_cast)) ?_;generalize hp:(jP (cond (VH k 1&&jJ x.1) 0 k) n x.1).2+wx x.2.2=i;refine dz (v:=.tup [.str x.2.1,.int (1+i / 7:Nat),.int (1+i % 7:Nat)]) (c9 (aj (af rfl) (aj (bB ax (bB (v:=.int ((i:Int).fdiv 7)) (af rfl) ax rfl) (show Y (O.int (1+(i:Int).fdiv 7))=_ by rw[N7])) (aj (bB ax (bB (v:=.int ((i:Int).fmod 7)) (af rfl) ax rfl) (show Y (O.int (1+(i:Int).fmod 7))=_ by rw[Oc])) aC))) rfl) ?_;have j:cond (qx k n ks x).1 (wQ k n (qx k n ks x).2 rs) UA=W:=j;have h1:(qx k n ks x).1=W/\wQ k n (qx k n ks x).2 rs=W:=by
    cases q:(qx k n ks x).1<;>rw[q]at j
    .exact bD j
    .exact⟨rfl,j⟩
   show aA ue _ _ G _ _;refine ag7 rfl rfl l.1 S (ahb h1.1 ?_);rw[hp];refine abL (WO.mp aa2 _ hm) rfl rfl ?_
   exactλF2 S2=>cF rfl (C _ F2 _ _ _ _ _ _ _ (λx h=>hx x (af9 _ h)) h1.2 S2)
end
end
local macro_rules | `(tactic|walk_at "lz")=>`(tactic|(have:=ae0;simp only[VK,VO];lia))
section
open PySem PySem.W
section
variable{K:bp}{X:KX}{H G:List MO}{e:En}
theorem Jb:∀{t:Nat}{l:List Row},x∈qe t l->x∈l
 |0,[],h=>by exact dw h
 |_+1,[],h=>by exact dw h
 |0,y::l,h=>by
  cases h with
  |head=>exact WL ..
  |tail _ h=>exact af9 _ (Jb (t:=2) h)
 |n+1,y::l,h=>af9 _ (Jb (t:=n) h)
theorem ai9{is:List Int}(m:is.length<=63)(h:∀G,K (.bool W) G):qX [.lst (is.map .int)] [] K X:=by
 unfold qX;refine fun1 ?_;unfold EA;refine fo ?_;refine cast xU.symm (oI (a:=[Y (.lst (is.map .int))]) rfl ?_);refine ahX (ys:=[.int (0:Nat),.int (1:Nat),.int (2:Nat)]) rfl ?_;refine E7 m 0 _ _ (oI (a:=[MO.lst [O.int (iI is 0)]]) rfl ?_);refine E7 m 1 _ _ (oI (a:=[MO.lst [O.int (iI is 0),O.int (iI is 1)]]) rfl ?_);refine E7 m 2 _ _ (oI (a:=[MO.lst [O.int (iI is 0),O.int (iI is 1),O.int (iI is 2)]]) rfl ?_);refine acf (xs:=[O.int (iI is 0),O.int (iI is 1),O.int (iI is 2)]) rfl ?_;refine aU (Fx (iI is 0) 5 (by decide)) λk f ek=>?_;refine aU (Fx (iI is 1) 4 (by decide)) λn j en=>?_;refine aU (Fx (iI is 2) 3 (by decide)) λt w p=>?_;generalize iI is 0=a at ek ⊢;generalize iI is 1=b at en ⊢;generalize iI is 2=c at p ⊢;refine oX (xs:=[.int k,.int n,.int t]) (c9 (aj (bB (v:=.int k) (bB (v:=.int a) (af rfl) ax rfl) ax (show Y (O.int (a.fmod (5:Nat)))=_ by rw[ek])) (aj (bB (v:=.int n) (bB (v:=.int b) (af rfl) ax rfl) ax (show Y (O.int (b.fmod (4:Nat)))=_ by rw[en])) (aj (bB (v:=.int t) (bB (v:=.int c) (af rfl) ax rfl) ax (show Y (O.int (c.fmod (3:Nat)))=_ by rw[p])) aC))) rfl) rfl ?_;refine fo ?_;show aA xM _ _ [.dead] _ _;refine cG aC (ahV ?_);refine c6 ?_;refine hO (x:=.ref 4) (cu (af rfl) rfl rfl) (hZ (xs:=[]) rfl) kL ?_;refine jX (xs:=[.tup [.tup [.int (-1)],.tup []]]) (aj (c9 (aj (c9 (aj (tY ax rfl) aC) rfl) (aj (c9 aC rfl) aC)) rfl) aC) ?_;refine oI (lQ (xs:=[]) rfl rfl) ?_;show ak (d8 [6,7] _) _ _ Af _ _;refine i6 ?_;refine cG (xs:=[.int k,.int n,.lst (cj [])]) (aj (af rfl) (aj (af rfl) (aj (ja aC rfl) aC))) (RJ (ws:=[]) f j (by decide) ?_);refine oI rfl ?_;refine dz (v:=.lst (cj (n9 k n))) (bB (af rfl) (ach f rfl) (AG (by have:=agg (k:=k) (ws:=[]) j (by decide);cases VH k 1<;>simp only[cond_true,cond_false,WB,akf]<;>lia))) ?_;show aA pN _ _ Af _ _;refine aaW (F2:=n8) (x:=.ref 1) (y:=.lst (cj (n9 k n))) (n:=0) (af rfl) (λG=>af rfl) ?_;show n8 [.lst (cj (n9 k n)),.ref 13] (Af++[.bu [],.lst [.int (0:Nat)]]) _ _;unfold n8;refine a9 (Tw (Tx f j).1) λD E=>?_;refine iY (abd (abe f j w)) λA I M N=>?_;refine Qo 8 (n9 k n) 0 _ _ _ D rfl λF u S=>?_;show pN [.ref 1,.ref 12,.lst (aP (gG 0 (n9 k n)).1)] F _ _;have S1:da (Af++[.bu [],.lst [.int (0:Nat)]]) 1 Γ0 y9:=⟨rfl,rfl,⟨0,rfl⟩,rfl,λi=>by cases i<;>rfl⟩;refine SN (n:=200) (L:=[]) (S1.up u λi hi=>by show bx (1+i) [13]=UA;exact sS (by lia)) (u 12 _ rfl rfl) (by decide) (by decide) E ?_;rw[I]
 refineλz b T S2 hb _=>?_
 rw[M]at hb;show ao aX (aA yo [Loc 2,aW]) _ _ z _ _;refine(bB (v:=.lst (i9 (l6 k n++[[11]]))) (hS (v:=.lst (Fw k n)) (xs:=[.int k,.int n]) (aj (af rfl) (aj (af rfl) aC)) λK X k=>acT f j k) (ja (xs:=[.tup [.int 11]]) (aj (c9 (aj ax aC) rfl) aC) rfl) ?_) _ _ ?_
 .rw[acP f j,add_l (y:=.lst [.tup [.int 11]]) rfl (c8 (by unfold i9;rw[VK,VO];have:=acR f j;show(l6 k n).length+1<=60000;lia))];unfold i9;rw[akG];rfl
 refine oI (afB f j hb) ?_;refine cF rfl (ahE ?_);refine fo ?_;refine AY (AY (AY (AY (cG aC (aiF λQ B=>?_)))));refine cG aC (aaD (oI (add_l rfl (c8 (by walk_at "lz"))) ?_));refine cG aC (aed (oI (add_l rfl (c8 (by walk_at "lz"))) ?_));refine cG aC (afM λl C=>oI (add_l rfl (c8 (by walk_at "lz"))) ?_);refine cG aC (aeO (oI (add_l rfl (c8 (by walk_at "lz"))) ?_));have S4:=(S2.le B).le C;show jt az _ _ DL _ l _ _;refine cast B1.symm ?_;refine(qW (af rfl) (af rfl) ax ax rfl rfl rfl (ahH w)) _ _ ?_;show forL (.tp [9,10,11]) DL _ _ ((qe t lI).map gV) _ l;exact ahe f j (λe G=>h G) (qe t lI) A.ks l _ _ _ _ _ _ _ (λx hx=>Jb hx) N S4
end
end
section
open PySem PySem.W PyProof.Rows PySem.Calls PySem.Spec
def agO:=U 0x73656369646e69
def agP:=U 0x7466656c
def agx:=U 0x68746f62
def agG:=U 0x7461657267
def agZ:=U 0x6472696874
def agt:=U 0x6461656861
def agX:=U 0x73776f72
def agy:=U 0x657564
noncomputable def qa{a b:Type}(f:a->b):List a->List b
 | []=>[]
 |x::r=>f x::qa f r
theorem qb{a b:Type}{f g:a->b}:∀{l:List a},l.map f=qa g l->∀x∈l,f x=g x
 | [],_,x,m=>by cases m
 |y::l,h,x,m=>by
  cases m with
  |head=>exact(akt h).1
  |tail _ m=>exact qb (akt h).2 x m
def Rl(P:abI)(a:Nat):Obj:=((H1 P).get? a).getD default
noncomputable def Qw:List Nat:=[3,2,414,164,695,230,67,24,522,355,22,23,46,47,48,49,50,51,52,53,54,55,56,57,58,501,183,395,106,72,70,71,75,73,74,78,76,77,81,79,80,84,82,83,87,85,86,90,88,89,93,91,92,96,94,95,99,97,98,102,100,101,105,103,104,415,394,390,388,391,392,389,393,707,708,416,59,60,61,62,63,64,65,66,770,202,144,781,826,793,812,805,798,819,833,786,406,477,484,120,456,430,45,463,380,242,38,413,437,250,31,713,449,127,113,706,423,533,718,387,444,366,373,470,201,229,354,500,521,694,769,143,163,182,30,37,44,112,119,126,141,140,161,160,180,179,199,198,220,219,227,226,241,235,249,243,264,263,271,270,278,277,286,285,279,294,293,287,302,301,295,309,308,331,330,345,344,352,351,365,372,379,386,405,412,422,429,436,443,448,455,462,469,476,483,498,497,519,518,532,712,717,732,731,746,745,753,752,760,759,547,546,575,574,582,581,617,616,631,630,624,623,659,658,666,665,645,644,652,651,671,670,678,677,685,684,692,691,638,637,596,595,589,588,610,609,603,602,568,567,561,560,554,553,705,780,785,792,797,804,811,818,825,832,838,837]
def Kf(P:abI):af7:=Qw.map λa=>(a,Rl P a)
theorem kf_in(P:abI):(Kf P).In (H1 P):=Frag.in_of (as:=Qw) rfl (by kernel_rfl!)
def OA:List (Str×O):=[(Py,yw),(rC,(.gl 164)),(yQ,(.gl 695)),(yH,(.gl 230)),(Po,(.str Cy)),(Pf,(.int 5)),(Pa,(.int (-64))),(Pg,(.int 11)),(adT,(.ty "Exception")),(Pm,(.gl 67)),(Pd,(.gl 24)),(Pp,(.str yV)),(Pe,(.int 4)),(yP,(.gl 522)),(yI,(.gl 355)),(Pb,(.gl 22)),(Pc,(.gl 23)),(Pk,(.gl 46)),(yO,(.gl 501)),(rD,(.gl 183)),(Px,(.int 4294967295)),(Pw,(.gl 395)),(Pn,Ou),(Pz,Ov),(Pu,Ow),(Ph,(.int 27)),(Pj,(.int 28)),(PC,FC),(PD,(.gl 708)),(PA,(.gl 416)),(Pl,(.gl 59)),(yS,(.gl 770)),(yG,(.gl 202)),(l8,(.gl 144)),(PK,(.str mq)),(sj,(.gl 781)),(sG,(.gl 826)),(PH,(.str iU)),(sv,(.gl 793)),(sD,(.gl 812)),(sy,(.gl 805)),(PG,(.str eN)),(sx,(.gl 798)),(PF,(.str aq)),(sF,(.gl 819)),(PI,(.str jF)),(sH,(.gl 833)),(PJ,(.str ng)),(so,(.gl 786)),(rL,(.gl 406)),(rW,(.gl 477)),(adP,(.ty "enumerate")),(rX,(.gl 484)),(rq,(.gl 120)),(rS,(.gl 456)),(rP,(.gl 430)),(rk,(.gl 45)),(rU,(.gl 463)),(jG,(.ty "int")),(rI,(.gl 380)),(Pr,(.gl 242)),(rj,(.gl 38)),(rM,(.gl 413)),(rQ,(.gl 437)),(Pt,(.gl 250)),(adN,(.bi "isinstance")),(rh,(.gl 31)),(PE,(.gl 713)),(PB,(.gl 449)),(adO,(.bi "len")),(rA,(.gl 127)),(ro,(.gl 113)),(adQ,(.ty "range")),(r8,(.gl 706)),(rN,(.gl 423)),(rY,(.gl 533)),(r9,(.gl 718)),(adR,(.ty "str")),(adS,(.ty "tuple")),(rJ,(.gl 387)),(rR,(.gl 444)),(rG,(.gl 366)),(rH,(.gl 373)),(rV,(.gl 470))]
def atT:List (Str×(List Nat×List Nat)):=[(eC,([202],[])),(b9,([202],[])),(lA,([202],[])),(cZ,([202,230,355],[164])),(df,([202,230,355],[164])),(bY,([230,355,522],[])),(cg,([355,522],[183])),(kP,([501],[])),(gF,([501],[])),(fG,([501],[])),(p4,([501],[])),(p5,([522],[])),(ml,([522],[])),(dR,([695],[])),(fJ,([695],[])),(fK,([695],[])),(dg,([695],[])),(iw,([695],[])),(iS,([770],[])),(mn,([770],[])),(fg,([770],[])),(iR,([],[144,164,183]))]
noncomputable def jB:List (Nat×(List Nat×List Nat)):=[(144,([144,164,183],[])),(164,([164],[144,183])),(183,([183],[144,164]))]
def shr:vi:=⟨OA,atT,iV,eB,aJ,nq,jB⟩
structure Sp (c:GC):Prop where
 K:c.K=Kf c.w.params
 quiet:c.quiet=W
theorem ady(P:abI):FD (Kf P) OA=W:=by kernel_rfl!
theorem aag(P:abI):AJ (Kf P) atT=W:=by kernel_rfl!
noncomputable def xpO:Obj->XP
 |⟨_,a,.cls x,sl⟩=>⟨x.name,x.qualname,x.ns,x.bases,x.mro.tail,x.hasDict,x.slotNames,x.subclasses,x.abstract,x.collection,a,sl.toList.getD 0 Sa,sl.toList.getD 1 Sa,sl.toList.getD 2 Sa,sl.toList.getD 3 Sa,sl.toList.getD 5 Sa,match sl.toList.getD 4 Sa with|some (.builtin s)=>s|_=>""⟩
 |_=>⟨⟨⟨[]⟩⟩,⟨⟨[]⟩⟩,0,[],[],UA,[],[],UA,Sa,Sa,Sa,Sa,Sa,Sa,Sa, ""⟩
def xh(P:abI)(a:Nat):XP:=xpO (Rl P a)
noncomputable def pL:List Nat:=[144,164,183]
theorem UN(P:abI):pL.map (λa=>fC a (Kf P))=qa (λa=>Y ((xh P a).o a)) pL:=by kernel_rfl!
def J8(p:XP):Bool:=p.nid == "Exception.__new__" && p.bm.contains (.type "Exception")&&p.bm.contains (.type "BaseException")&&bX (p.bm.contains (.type "AttributeError"))&&bX (p.bm.contains (.type "NameError"))
theorem UO(P:abI):b8 (λa=>J8 (xh P a)) pL=W:=by kernel_rfl!
def OG(P:abI)(q:Nat×List Nat×List Nat):Bool:=bx q.1 pL&&b8 (λC=>bx C pL&&(acm C::(xh P C).bm).contains (.ref q.1)) q.2.1&&b8 (λC=>bx C pL&&bX ((acm C::(xh P C).bm).contains (.ref q.1))) q.2.2
theorem adG(P:abI):b8 (OG P) jB=W:=by kernel_rfl!
noncomputable def Bk:List (Nat×Nat):=[(144,141),(164,161),(183,180)]
theorem ab6(P:abI):b8 (λq=>y1 q.2 (aga (Kf P) (.ref q.1) "__init__")&&yZ (amw (Kf P) (.ref q.2))) Bk=W:=by kernel_rfl!
theorem adZ(P:abI):CA (Kf P) iV=W:=by kernel_rfl!
noncomputable def tab:Tab:=[(31,1,BK),(38,1,yl),(45,1,vM),(113,1,N5),(120,2,BH),(127,1,BR),(141,1,ub),(161,2,Bl),(180,2,BD),(164,3,hJ),(183,3,vz),(199,1,BG),(202,2,pB),(220,1,By),(230,2,vw),(227,1,vI),(242,2,BJ),(250,1,lr),(264,1,BA),(355,2,vx),(271,1,t7),(278,2,tZ),(286,3,t6),(294,3,yi),(302,4,yh),(309,5,lq),(331,6,BB),(345,1,t8),(352,5,t9),(366,3,qY),(373,1,uf),(380,4,BI),(387,4,vP),(406,1,vJ),(413,1,ym),(423,4,eg),(430,2,n7),(437,1,yn),(444,5,lZ),(449,6,uc),(456,1,kK),(463,5,vN),(470,1,pO),(477,5,vL),(484,5,yk),(498,1,BC),(501,2,vy),(519,1,Bz),(522,2,EO),(533,3,jY),(713,7,BL),(718,8,yq),(732,1,BE),(770,2,xM),(746,5,kJ),(753,1,yj),(760,9,BF),(547,1,Bp),(695,2,xK),(575,1,vH),(582,1,vE),(617,3,vG),(631,10,pM),(624,11,vD),(659,5,Br),(666,5,vF),(645,6,mY),(652,11,Bq),(671,7,Bt),(678,6,Bs),(685,5,Bn),(692,7,Bw),(638,12,yc),(596,5,Bu),(589,13,ye),(610,12,Bo),(603,13,yb),(568,14,Bv),(561,15,Bx),(554,16,yf),(706,17,pN),(781,1,BM),(786,1,BQ),(793,1,BN),(798,1,BP),(805,1,BO),(812,10,n8),(819,1,vO),(826,1,yo),(833,18,ue),(838,19,qX)]
def mM:List FR:=[⟨0,[],[ik],[],[],[],[],Ez⟩,⟨1,[],[],[],[],[],[],Ew⟩,⟨2,[],[ik],[],[],[],[],AO⟩,⟨3,[],[OK,B9,FO,FP],[],[],[],[],Mp⟩,⟨4,[],[],[3],[],[],[],Eu⟩,⟨5,[],[OM],[],[],[],[],ED⟩,⟨6,[],[],[],[],[],[],Mb⟩,⟨7,[],[],[],[],[(144,cM,6)],[],Ln⟩,⟨8,[],[],[],[],[(144,cM,6)],[],L6⟩,⟨11,[],[],[],[],[],[],Ma⟩,⟨13,[],[],[],[],[],[],LN⟩,⟨15,[],[ur],[],[],[],[],LM⟩,⟨18,[],[],[],[],[],[],LS⟩,⟨20,[],[],[],[],[],[],LV⟩,⟨21,[],[],[],[(mf,[(355,20)])],[],[],LR⟩,⟨25,[],[],[],[(mf,[(355,20)]),(pY,[(355,24)])],[],[],LY⟩,⟨26,[],[],[],[(jD,[(355,23)]),(iF,[(355,25)])],[],[],LZ⟩,⟨27,[],[j4],[],[],[],[],LX⟩,⟨28,[],[],[],[(mf,[(355,20)]),(pY,[(355,24)])],[],[],L4⟩,⟨29,[],[],[19],[],[],[],Mw⟩,⟨30,[],[Gg,j4,OO,OP],[],[],[],[],Mx⟩,⟨31,[],[OQ,B9],[17,9],[],[],[],Mg⟩,⟨32,[],[],[17,9],[],[],[],Mu⟩,⟨33,[],[ur,OT,yM,om],[],[],[],[],Es⟩,⟨34,[],[],[],[],[],[],Ex⟩,⟨35,[],[],[9],[],[],[],Mr⟩,⟨36,[],[],[],[(j0,[(230,15)])],[],[],Me⟩,⟨37,[],[],[],[],[],[],Ey⟩,⟨38,[],[ik],[35,1,10,0],[],[],[],Mv⟩,⟨39,[],[],[38],[],[],[],Mj⟩,⟨40,[],[],[],[],[],[],Md⟩,⟨41,[],[],[40,35],[],[],[],Mf⟩,⟨42,[],[],[],[],[],[],My⟩,⟨43,[],[j4],[30,35],[],[],[],Et⟩,⟨44,[],[OU],[35],[],[],[],Mc⟩,⟨45,[],[],[],[],[],[],L5⟩,⟨47,[],[],[],[],[],[],LP⟩,⟨49,[],[],[48],[],[],[],Ms⟩,⟨50,[],[ow,fG,ik],[29,38,9],[(rF,[(355,26)]),(mj,[(355,27)]),(iF,[(355,25)]),(m5,[(355,28)])],[],[],Mk⟩,⟨51,[],[FO,FP],[50,29,38],[(iD,[(355,22)]),(iF,[(355,25)]),(mj,[(355,27)])],[],[(567,23),(567,27)],Mt⟩,⟨52,[],[yR],[],[],[],[(578,21)],Er⟩,⟨54,[],[],[17,32,9],[],[],[],L7⟩,⟨55,[],[uA,O5],[],[],[],[],L8⟩,⟨56,[],[cZ,df,O6,iS,O7,ow,ik],[19,29,51,9],[(iD,[(355,22)]),(iF,[(355,25)]),(eH,[(770,54)]),(m5,[(355,28)]),(sa,[(770,55)])],[],[],L9⟩,⟨57,[],[],[],[],[],[(298,20),(299,22),(300,21)],Lv⟩,⟨59,[],[],[],[],[],[],LD⟩,⟨60,[],[],[],[],[],[],Lp⟩,⟨61,[],[],[46],[],[],[],Lz⟩,⟨62,[],[eH,iS,vY],[35],[(uG,[(770,56)])],[],[],LL⟩,⟨63,[],[vY,fg,OY,OZ,j0],[36,39],[(lB,[(695,62)])],[],[(420,54)],Lo⟩,⟨64,[],[],[32,35],[],[],[],LA⟩,⟨65,[],[uA],[32,35],[],[],[],Ly⟩,⟨66,[],[],[41],[(eH,[(770,54)])],[],[],Lu⟩,⟨67,[],[dh,ik,ur,j4],[40,41],[(eH,[(770,54),(695,66)]),(lB,[(695,62)]),(fR,[(695,64)]),(fF,[(695,65)])],[],[(478,16)],Lw⟩,⟨68,[],[j4,agO,ur,dh],[40,35,41],[(eH,[(770,54),(695,66)])],[],[(501,16),(511,66)],LC⟩,⟨69,[],[yN,O0],[5,42,43,44],[],[],[],LB⟩,⟨70,[],[ik],[35,42,2,31],[],[],[],Lq⟩,⟨71,[],[fg,O1],[36,39],[],[],[(540,26)],LJ⟩,⟨72,[],[om,Cu,eH],[37,35,33,34,10,4],[(gD,[(695,71)]),(eH,[(770,54),(695,66)]),(ow,[(695,67)]),(uE,[(695,68)]),(m9,[(695,69)]),(uF,[(695,70)])],[],[],Lx⟩,⟨73,[],[fF],[35,40],[(ou,[(695,60)])],[],[],LG⟩,⟨74,[],[bY,cg,fF,ik,kS],[33],[(m7,[(695,61)]),(m8,[(695,63)]),(m6,[(695,59)]),(uC,[(695,73)]),(kS,[(695,72)])],[],[],LF⟩,⟨75,[],[fF,cg,ik,HR,vY,OX],[36,35,49],[(m7,[(695,61)]),(m8,[(695,63)])],[],[(402,16)],Ls⟩,⟨76,[],[gF,fG,bY,fF,cg,ik,kS],[36,35,33,49],[(uD,[(695,75)]),(m7,[(695,61)]),(m8,[(695,63)]),(m6,[(695,59)]),(kS,[(695,72)])],[],[],Lr⟩,⟨77,[],[l9],[35],[(r7,[(695,76)]),(r5,[(695,74)])],[],[],LI⟩,⟨78,[],[eC,OV],[],[(m6,[(695,59)]),(ou,[(695,60)]),(jE,[(695,77)])],[],[],LK⟩,⟨79,[],[],[49],[(uB,[(695,78)])],[],[],LH⟩,⟨80,[],[],[58],[(rZ,[(695,79)])],[],[],Mq⟩,⟨81,[],[],[],[],[],[],Ml⟩,⟨82,[],[yM,j4,agP],[],[],[],[],EC⟩,⟨83,[],[],[],[],[],[],Mn⟩,⟨84,[],[j4,agx,agG],[],[],[],[],EB⟩,⟨85,[],[],[],[],[],[],Mo⟩,⟨87,[],[Cw],[],[],[],[],AQ⟩,⟨88,[],[Cw],[],[],[],[],Mm⟩,⟨89,[],[O9],[80],[],[],[],AR⟩,⟨90,[],[Gg,eC,Ih,agZ,dR,sA,agt,agX,yM,iR,cg,HR,agy],[53,87,86,80,88,82,81,83,84,85,89],[],[],[(708,47),(715,50)],EA⟩]
def nO:List FR:=[⟨16,[.none],[],[],[(j0,[(230,15)])],[],[],Mh⟩,⟨17,[.none],[],[],[],[],[],Mi⟩,⟨22,[.none],[],[16],[(mh,[(355,21)])],[],[],LU⟩,⟨23,[.none],[],[17],[(mh,[(355,21)])],[],[],LW⟩,⟨24,[.str aq],[l9],[9],[(mh,[(355,21)])],[],[],LQ⟩]
noncomputable def Ur:List Nat:=[3,30]
def JL(i:Nat)(F:Fn):Fn:=cond (bx i Ur) F (sl F)
theorem ahF{P:Fn->Prop}{i:Nat}{F:Fn}(h:P F):P (JL i F):=by unfold JL;cases bx i Ur;exact JM h;exact h
theorem SU(P:abI):b8 (λr=>r.ok (Kf P) tab) (mM++nO)=W:=by kernel_rfl!
theorem ahl(P:abI):(mM++nO).map (λr=>comp 60 (r.cx (Kf P) shr tab) (vr (r.fd (Kf P) tab)))=qa (λr=>Y r.b) (mM++nO):=by kernel_rfl!
theorem ahj(P:abI):(mM++nO).map (λr=>tF tab r.i)=qa (λr=>JL r.i (r.F (Kf P) tab)) (mM++nO):=by kernel_rfl!
theorem ahk(P:abI)(a b e f h i:VD):mM.map (λr=>r.MH (Kf P) tab a b e f h i)=qa (λr=>r.MG (Kf P) tab a b e f h i) mM:=by kernel_rfl!
theorem ahm(P:abI):b8 (λr=>r.d1 (Kf P) tab) nO=W:=by kernel_rfl!
theorem ahn(P:abI)(a b e f h i:VD):nO.map (λr=>r.b1 (Kf P) tab a b e f h i)=qa (λr=>r.b2 (Kf P) tab a b e f h i) nO:=by kernel_rfl!
theorem aho:b8 (λr=>r.defs.isEmpty) mM=W:=by kernel_rfl!
section
variable{c:GC}
theorem adf(S:Sp c)(B:pq c shr){r:FR}(a:r∈mM++nO)(hb:r∈mM∨ph c (eu tab r.i) (q0 (r.fd c.K tab) (gT (r.fd c.K tab)) r.defs))(b:∀j,j < r.i->Tk c tab j):Tk c tab r.i:=by
 have:=ahd (r:=r) B (T:=tab) (by rw[S.K];exact ib (SU _) r a) (by rw[S.K];exact qb (ahl _) r a) (hb.imp (λm=>⟨λf h l p x y=>by rw[S.K];exact qb (ahk _ f h l p x y) r m,anB.mp (ib aho r m)⟩) id) b;refine⟨?_,this.2⟩;have e:=qb (ahj c.w.params) r a;rw[show tF tab r.i=_ from e];rw[S.K]at this;exact ahF (P:=λF=>dM c (tL tab r.i) (.ref (eu tab r.i)) F) this.1
def EZ(K:af7)(C i:Nat):Bool:=makesIn K C&&y1 i (aga K (.ref C) "__init__")&&yZ (amw K (.ref i))&&aow K (.ref C)
def Fh(K:af7)(C i:Nat):Bool:=y1 i (aga K (.ref C) "__init__")&&yZ (amw K (.ref i))&&aow K (.ref C)
theorem aba{i j N:Nat}{G:Fn->Fn}(b:∀{n F},dM c n (.ref (eu tab i)) F->dM c n (.ref (eu tab i)) (G F))(h:EZ c.K (eu tab i) (eu tab j)=W)(e1:tL tab j=N+1)(e2:tL tab i=N+2)(a:tF tab i=sl (G (nT (eu tab i) (tF tab j))))(k:Tk c tab j):Tk c tab i:=by
 unfold EZ at h;simp only[VG]at h;refine⟨?_,CQ h.2⟩;rw[a,e2];refine JM (P:=λF=>dM c _ _ F) (b (aiW h.1.1.1 (Iw h.1.1.2) (It h.1.2) ?_));have:=k.1;rwa [e1]at this
theorem CY{a:Nat}{l:List Nat}(h:bx a l=W):a∈l:=kX h
theorem Fi(S:Sp c){a i:Nat}(b:bx a pL=W)(hi:eJ a Bk=Y i):tq c a i:=by
 have h:=ib (UO c.w.params) a (CY b);unfold J8 at h;simp only[VG,zm,amb,akP]at h;have q:=ib (ab6 c.w.params) _ (QP hi);rw[VG]at q;rw[←S.K]at q;exact⟨⟨xh c.w.params a,q8 (by rw[S.K];exact qb (UN _) a (CY b)),h.1.1.1.1,h.1.1.1.2,h.1.1.2,h.1.2,h.2⟩,Iw q.1,It q.2⟩
theorem N0{i j N:Nat}(h:Fh c.K (eu tab i) (eu tab j)=W)(b:tq c (eu tab i) (eu tab j))(e1:tL tab j=N+1)(e2:tL tab i=N+2)(a:tF tab i=sl (Ab (eu tab i) (tF tab j)))(k:Tk c tab j):Tk c tab i:=by
 unfold Fh at h;simp only[VG]at h;refine⟨?_,CQ h.2⟩;rw[a,e2];refine JM (P:=λF=>dM c _ _ F) (acw b ?_);have:=k.1;rwa [e1]at this
noncomputable def xQ:List (Nat×Nat×Bool):=[(12,11,W),(14,13,W),(19,18,UA),(46,45,UA),(48,47,UA),(53,52,UA),(58,57,UA)]
def FF(b:Bool)(F:Fn):Fn:=match b with|true=>xr F|false=>F
theorem aa8(P:abI):b8 (λp=>EZ (Kf P) (eu tab p.1) (eu tab p.2.1)&&aca p.2.1 p.1&&VH (tL tab p.1) (tL tab p.2.1+1)&&af0 1 (tL tab p.2.1)) xQ=W:=by kernel_rfl!
theorem aa6:xQ.map (λp=>tF tab p.1)=qa (λp=>sl (FF p.2.2 (nT (eu tab p.1) (tF tab p.2.1)))) xQ:=by kernel_rfl!
theorem adD{F:Fn}{b:Bool}(h:dM c n v F):dM c n v (FF b F):=by
 cases b
 .exact h
 .exact Oq h
theorem aa7(S:Sp c){p:Nat×Nat×Bool}(m:p∈xQ)(a:∀j,j < p.1->Tk c tab j):Tk c tab p.1 :=
 bt (ib (aa8 c.w.params) p m) λh h4=>bt h λh h3=>bt h λh1 h2=>aba (N:=tL tab p.2.1 - 1) (G:=FF p.2.2) adD (by rw[S.K];exact h1) (ale (WG h4)).symm
  ((VW h3).trans (congrArg (· + 1) (ale (WG h4)).symm)) (qb aa6 p m) (a _ (xJ h2))
theorem NZ(P:abI):b8 (λp=>Fh (Kf P) (eu tab p.1) (eu tab p.2)) [(9,7),(10,8)]=W:=by kernel_rfl!
theorem sp9(S:Sp c)(a:∀j,j < 9->Tk c tab j):Tk c tab 9:=N0 (j:=7) (N:=1) (by rw[S.K];exact ib (NZ _) (9,7) (by decide)) (Fi S (by kernel_rfl!) (by kernel_rfl!)) (by kernel_rfl!) (by kernel_rfl!) (by kernel_rfl!) (a _ (by decide))
theorem ahQ(S:Sp c)(a:∀j,j < 10->Tk c tab j):Tk c tab 10:=N0 (j:=8) (N:=1) (by rw[S.K];exact ib (NZ _) (10,8) (by decide)) (Fi S (by kernel_rfl!) (by kernel_rfl!)) (by kernel_rfl!) (by kernel_rfl!) (by kernel_rfl!) (a _ (by decide))
def cxI(P:abI)(F:Fn):Cx:=shr.cx ([sA,uH]++[j4,b9,cZ,df,eC]) (pP (Kf P) 812).scope.names ((812,F)::[14,12].map λi=>(eu tab i,tF tab i)) [] [] [(661,12)]
theorem ccI(P:abI)(n:Nat)(F:Fn):comp 60 (cxI P F) (vr (pP (Kf P) 812))=Y (AP n F):=by kernel_rfl!
theorem fcI(P:abI):(CG (Kf P) 812&&qZ (Kf P) 812 (pP (Kf P) 812) [sA,uH]&&wD (pP (Kf P) 812) [sA,uH]&&b8 uV ([sA,uH]++[j4,b9,cZ,df,eC]))=W:=by kernel_rfl!
theorem fbI(P:abI):∀a:List VD,a.length=2->amk (pP (Kf P) 812) ⟨a,[]⟩=pure (([sA,uH]:List Str).zip a):=λa e=>by apply vK e;exactλb f=>(by kernel_rfl! : amk (pP (Kf P) 812) ⟨[b,f],[]⟩=pure (([sA,uH]:List Str).zip [b,f]))
theorem spI(S:Sp c)(B:pq c shr)(p:∀j,j < 86->Tk c tab j):∀n,k7 c (2+n) 812 (ud n):=by
 have h:=fcI c.w.params;simp only[VG]at h;obtain⟨⟨⟨h1,h2⟩,h3⟩,h4⟩:=h;obtain⟨o,b,a⟩:=Ir h1;rw[←S.K]at b a h2 h3;have f:=Oe b a h2 h3 (by rw[S.K];exact fbI _);have e:=CQ (BU b a h2 (defs:=[])).Qu;intro n;induction n with
 |zero=>exact⟨λm _ xs σ K X h=>h.elim,e⟩
 |succ n i =>
  exact⟨Oq (Oo (rest:=[j4,b9,cZ,df,eC]) f (Nl B (by rw[S.K];kernel_rfl!) (by rw[S.K]) h4 (qH.cons i (Of (l:=[14,12]) λj m=>⟨p j (by revert j;decide),VR (by revert j;decide +kernel) (akx 2 n)⟩)) qK.nil qF.nil) rfl rfl rfl (by have:=ccI c.w.params n (ud n);rw[S.K];exact this)),e⟩
noncomputable def TK:List Nat:=[9,10,86]
theorem cov:b8 (λn=>((mM++nO).any λr=>VH r.i n)||((xQ.any λp=>VH p.1 n)||bx n TK)) (akk 91)=W:=by decide +kernel
theorem IX{n k:Nat}{l:List Nat}{P:Nat->Prop}(h:bx n (k::l)=W)(a:P k)(b:bx n l=W->P n):P n:=by
 have h:cond (VH n k) W (bx n l)=W:=h;cases q:VH n k with
 |true=>rw[VW q];exact a
 |false=>rw[q]at h;exact b h
theorem ahU(S:Sp c)(B:pq c shr){n:Nat}(h:bx n TK=W):(∀j,j < n->Tk c tab j)->Tk c tab n :=IX (P:=λn=>(∀j,j < n->Tk c tab j)->Tk c tab n) h (λa=>sp9 S a) λh=>IX (P:=λn=>(∀j,j < n->Tk c tab j)->Tk c tab n) h (λa=>ahQ S a) λh=>IX (P:=λn=>(∀j,j < n->Tk c tab j)->Tk c tab n) h (λa=>spI S B a 8) λh=>(by cases h)
theorem ade(S:Sp c)(B:pq c shr){r:FR}(a:r∈mM++nO)(b:∀j,j < r.i->Tk c tab j):Tk c tab r.i :=adf S B a ((aa1.mp a).imp_right λm=>ac5 (by rw[S.K];exact ib (SU _) r a) (by rw[S.K];exact ib (ahm _) r m) λe f h l p w=>by rw[S.K];exact qb (ahn _ e f h l p w) r m) b
theorem Z7(S:Sp c)(B:pq c shr)(n:Nat):n<=91->∀j,j < n->Tk c tab j:=by
 induction n with
 |zero=>exactλ_ j h=>absurd h (amn _)
 |succ n f =>
  intro b j h;have a:=f (ao7 b);refine(Nat.lt_or_eq_of_le (alv h)).elim (a j) λq=>?_;rw[q];refine(amH.mp (ib cov n (aqd.mpr b))).elim (λe=>?_) λe=>(amH.mp e).elim (λe=>?_) λe=>ahU S B e a
  .refine aU (ani.mp e) λr m e=>?_;rw[←VW e]at a ⊢;exact ade S B m a
  .refine aU (ani.mp e) λr m e=>?_;rw[←VW e]at a ⊢;exact aa7 S m a
theorem aeV(S:Sp c)(B:pq c shr):k7 c 19 838 qX:=Z7 S B 91 (VJ _) 90 (by decide)
theorem adH(S:Sp c):∀D p,eJ D jB=Y p->(∀C∈p.1,pg c C D W)/\∀C∈p.2,pg c C D UA:=λD p h=>by
 have h:=ib (adG c.w.params) _ (QP h);unfold OG at h;rw[VG,VG]at h;have g:∀a,bx a pL=W->∃q:XP,q=xh c.w.params a/\c.base.get? a=Y (q.o a)/\q.bm.contains (.type "BaseException")=W:=λa m=>by
  have h:=ib (UO c.w.params) a (CY m);unfold J8 at h;simp only[VG]at h;exact⟨_,rfl,q8 (by rw[S.K];exact qb (UN _) a (CY m)),h.1.1.2⟩
 obtain⟨q,_,d1,f⟩:=g D h.1.1;refine⟨λC m=>?_,λC m=>?_⟩
 .have z:=ib h.1.2 C m;rw[VG]at z;obtain⟨r,e,b,_⟩:=g C z.1;exact⟨⟨r,b,e▸z.2⟩,q,d1,f⟩
 .have z:=ib h.2 C m;rw[VG,zm,amb]at z;obtain⟨r,e,b,_⟩:=g C z.1;exact⟨⟨r,b,e▸z.2⟩,q,d1,f⟩
theorem acB(S:Sp c):Ad c eB:=λC m=>by
 have:∀C∈eB,bx C pL=W/\(eJ C Bk).isSome=W:=by decide +kernel
 obtain⟨h1,h2⟩:=this C m;cases q:eJ C Bk with
 |none=>rw[q]at h2;cases h2
 |some i=>exact⟨i,Fi S h1 q⟩
end
theorem CV{a:Type}{s:Str}{v:a}:∀{l:List (Str×a)},look s l=Y v->(s,v)∈l:=by
 intro l;induction l with
 |nil =>
  exact@λh=>by exact bN h
 |cons e r b =>
  obtain⟨x,w⟩:=e;exact@λh=>by
   exact IP h (λe1 e2=>by rw[e1,e2];exact .head _) λh=>.tail _ (b h)
theorem afc:∀p∈aJ.low,p.2=apm p.1/\p.1.length<=5592405:=by decide +kernel
theorem adL:∀p∈aJ.hex,(abH aJ.uj p.1 0 aJ.uj.length 1).head? = Y p.2:=by decide +kernel
theorem ahW:∀p∈aJ.gf,p.2=ant p.1 ⟨⟨[32]⟩⟩/\p.1.length<=WI/\(alU p.1 (abH p.1 ⟨⟨[32]⟩⟩ 0 p.1.length (p.1.length+1)) 1).length<=WI:=by decide +kernel
theorem aei:∀p∈nq,aoa p.1=Y p.2/\p.1.length<=640:=by decide +kernel
section
variable{c:GC}
theorem lL.nil:lL c []:=λa k h=>by exact bN h
theorem lL.cons{a:Nat}{e:List (AK×O)}{l:Bd}(h:gZ c a e)(t:lL c l):lL c ((a,e)::l):=λb k hb =>
 ze hb (λe1 e2=>by rw[e1,←e2];exact h) λhb=>t b k hb
theorem aip(B:lL c aJ.bd):xv c aJ :=
 ⟨B,λs t h=>afc _ (CV h),λp j h=>by
  have:=adL _ (CV h);cases q:abH aJ.uj p 0 aJ.uj.length 1 with
  |nil=>rw[q]at this;exact bN this
  |cons i r=>rw[q]at this;have a:=UB this;clear this;subst a;exact⟨r,rfl⟩,λs l h=>ahW _ (CV h)⟩
theorem aeA:Ah nq:=λs i h=>aei _ (CV h)
def AW(a:Nat):List (AK×O):=(eJ a az).getD []
theorem bdi(P:abI):b8 (λa=>tU NR (Kf P) a (AW a)) [22,23,24,46,59,67,395]=W:=by kernel_rfl!
theorem bds(P:abI):b8 (λa=>tU NS (Kf P) a (AW a)) [416,708]=W:=by kernel_rfl!
def esA(P:abI)(a:Nat):List VM:=((fC a (Kf P)).bind pH).getD []
noncomputable def TO:List VM->List (Str×Nat×VD)
 | []=>[]
 |e::r=>match e.key with | .str s t=>(s,t,e.val)::TO r|_=>[]
theorem acn(P:abI): [416,708].map (λa=>(fC a (Kf P)).bind pH)=qa (λa=>Y ((TO (esA P a)).map λe=>⟨acC P e.1,.str e.1 e.2.1,e.2.2⟩)) [416,708]:=by kernel_rfl!
theorem ah1{w:afJ}(l:List (Str×Nat×VD)):∀e∈l.map λe=>(⟨acC w.params e.1,.str e.1 e.2.1,e.2.2⟩: VM),∃s t,e.key = .str s t/\e.hash=hashStr w s:=λe m=>aU (abz.mp m) λp _ h=>by
 rw[←h];exact⟨_,_,rfl,rfl⟩
theorem di(S:Sp c){a:Nat}(h:a∈[22,23,24,46,59,67,395]):gZ c a (AW a):=abD (by rw[S.K];exact ib (bdi _) a h)
theorem ds(S:Sp c){a:Nat}(h:a∈[416,708]):gZ c a (AW a):=abE (by rw[S.K];exact qb (acn _) a h) (ah1 _) (by rw[S.K];exact ib (bds _) a h)
theorem aas(S:Sp c):lL c aJ.bd:=(.cons (di S (a:=22) (by decide)) (.cons (di S (a:=23) (by decide)) (.cons (di S (a:=24) (by decide)) (.cons (di S (a:=46) (by decide)) (.cons (di S (a:=59) (by decide)) (.cons (di S (a:=67) (by decide)) (.cons (di S (a:=395) (by decide)) (.cons (ds S (a:=416) (by decide)) (.cons (ds S (a:=708) (by decide)) .nil)))))))))
theorem acz(P:abI):ak9 (Kf P) (.type "Exception") (.type "type") "__init__" = Y (.val (.builtin "Exception.__init__")):=by kernel_rfl!
theorem ahB(S:Sp c):pq c shr where
 gl:=by rw[S.K];exact ady _
 ex:=by rw[S.K];exact acz _
 at_:=by rw[S.K];exact aag _
 dK:=by rw[S.K];exact adZ _
 eA:=acB S
 T:=aip (aas S)
 it:=aeA
 hd:=adH S
 quiet:=S.quiet
theorem aeU(S:Sp c):dM c 19 (.ref 838) qX:=(aeV S (ahB S)).1
end
theorem aeg{x:WData}(h:amD [] x .int=W):∃i,x = .int i:=by
 cases x<;>first|exact⟨_,rfl⟩|exact bD h
theorem items_int{xs:List WData}:ap6 [] xs .int=W->∃is:List Int,xs=is.map .int:=by
 induction xs with
 |nil=>exactλ_=>⟨[],rfl⟩
 |cons x r j=>exactλh=>bt (a:=amD [] x .int) (b:=ap6 [] r .int) h λh1 h2=>(aeg h1).elim λi e=>(j h2).elim λis f=>⟨i::is,by rw[e,f];rfl⟩
theorem has_list{d:WData}(h:amD [] d (.list .int)=W):∃is:List Int,d = .list (is.map .int):=by
 cases d<;>first|exact bD h|skip
 rename_i xs
 exact(items_int (xs:=xs) ((Bool.or_false _).symm.trans h)).imp λis e=>by rw[e]
theorem aab{args:List WData}(h:wV.row.toRowW.claim.pre args=W):∃is:List Int,args=[.list (is.map .int)]/\is.length<=63:=by
 refine a9 (pre_splitW h) λh1 h2=>?_;have h1:WShape.hasAll [] args [.list .int]=W:=h1;cases args with
 |nil=>exact bD h1
 |cons d r =>
  cases r with
  |cons _ _=>exact bt (a:=amD [] d (.list .int)) (b:=UA) h1 λ_ h=>bD h
  |nil =>
   refine VF (has_list (bt (a:=amD [] d (.list .int)) (b:=W) h1 λh _=>h)) λis f=>?_;subst f;refine⟨is,rfl,?_⟩;have h2:(WTm.and (.not (.lt (.lit (.int 63)) (.len (.arg 0)))) (.lit (.bool W))).holds [] { args:=[.list (is.map .int)]}=W:=h2;have e:al3 [] (WTm.and (.not (.lt (.lit (.int 63)) (.len (.arg 0)))) (.lit (.bool W))) { args:=[.list (is.map .int)]}=Y (.bool (!decide ((63:Int)< is.length))):=by
    have k:PySem.W.less? (aql 63) (aql (is.map aql).length)=Y (decide ((63:Int)< is.length)):=by rw[VO];rfl
    rw[al3,al3,al3,al3,al3,al3];dsimp only[al3,List.getElem?_cons_zero];rw[k];cases decide ((63:Int)< is.length)<;>rfl
   unfold WTm.holds at h2;rw[e]at h2;refine apI λq=>?_;rw[ab8 (show(63:Int)< is.length from akq.mpr q)]at h2;exact bD h2
theorem aeT(P:abI):((fC akp (Kf P)).bind xV).map (q4 qc)=Y (Y (.ref 838)):=by kernel_rfl!
theorem aii(P:abI):((H1 P).get? aic).isSome=W:=by kernel_rfl!
theorem aiB(hv:∀is:List Int,is.length<=63->qX [.lst (is.map .int)] [] (λv _=>v = .bool W) λ_ _ _=>False): WalkO qL uU (λ_ _=>True) (λw h=>∀a o,(H1 w.params).get? a=Y o->h.get? a=Y o) wV.row.toRowW II [] λf vs=>aqZ f vs:=by
 intro w Z s₁ mg mb G C a o pm cd doc dV kV ha hod hcr hdf H j args A as z M hrd I N;refine aU (aab z) λis B l=>?_;subst B;have hm:s₁.heap.get? aic≠Sa:=by
  have:=aii w.params;cases q:(H1 w.params).get? aic with
  |none=>rw[q]at this;exact bD this
  |some o=>rw[C _ _ q];simp
 let c:GC:={ prog:=wV.row.toRowW.prog,w:=w,base:=s₁.heap,os:=s₁.os,K:=Kf w.params,KX:=(kf_in _).keeps C,q:=qL,loose:=looseW qL uU,mg:=mg,mb:=mb,top:=topRead_of G.T,mods:=hm,quiet:=W}
 have S:Sp c:=⟨rfl,rfl⟩;have L:dM c 40 (.ref 838) qX:=(aeU S).up (by decide);have y:c.mg qc=Y (.ref 838):=by
  have:=aeT w.params;cases q:(fC akp (Kf w.params)).bind xV with
  |none=>rw[q]at this;exact bN this
  |some es =>
   rw[q]at this;rw[←IZ (c:=c) (es:=es) q qc];have this:Y (q4 qc es)=Y (Y (acm 838)):=this;injection this
 have ea:a=838:=by
  have h1:mg qc=Y (.ref a):=H;have h2:mg qc=Y (.ref 838):=y;rw[h1]at h2;injection h2 with h2
  injection h2
 subst ea;obtain⟨b,us,ev,hb,wu⟩: ∃b us,A=[.ref b]/\s₁.heap.get? b=Y { cls:=.type "list",data:=.seq (aqx us)}/\WellAll w.params s₁.heap us (is.map .int):=by
  cases I with
  |cons h1 h2 =>
   cases h2;cases h1;exact⟨_,_,rfl,by assumption,by assumption⟩
 subst ev;have ru:∀{V:Vw}{us:List VD}{is:List Int},WellAll w.params s₁.heap us (is.map .int)->bg V s₁.heap us (is.map .int):=λ{V us is} h=>by
  induction is generalizing us with
  |nil=>cases h;exact .nil
  |cons i r ih=>cases h with
   |cons h1 h2=>cases h1;exact .cons (.int _ _) (ih h2)
 let σ:Sg:=⟨[],λ_=>0,λ_=>Sa⟩
 have Q:Rg c 40 (λ_=>False) [] callerA σ s₁:=⟨λ_ _ e=>e,trivial,rfl,λ_=>rfl,by decide +kernel,by decide +kernel,λenv h=>(by exact dw h),λa h=>h.elim,λk m e=>(by simp[σ]at e),λa h=>absurd rfl h,j,rfl⟩;have rl:bg (σ.V λ_=>False) s₁.heap [.ref b] [.lst (is.map .int)]:=.cons (.lst (by rintro (h|h);exact h rfl;exact h) hb (ru wu)) .nil;refine anc (ak2 (L 40 (VJ _) [.lst (is.map .int)] σ _ _ (hv is l) _ _ _ s₁ _ Q rl) λres s' p=>?_);rcases res with e|(_|_|_|v)
 .refine uY p λx E T D X q=>?_;exact q.elim
 .exact p.elim
 .exact p.elim
 .exact p.elim
 .refine uY p λx E r D X q=>?_;have q:x = .bool W:=q;subst q;cases r;refine GoodW.toG ⟨.inl ⟨.bool W,.bool W,[],rfl,λ_=>rfl,.bool W,?_,λ_=>⟨.nil,λa h=>by exact dw h⟩⟩,D.stays,D.os,D.gens⟩;show(amD [] (WData.bool W) .bool&&(WTm.eq .res (.lit (.bool W))).holds [] { args:=[aq0 (is.map .int)],res:=Y (.bool W),after:=[aq0 (is.map .int)]})=W
  kernel_rfl!
theorem holds_of(a:∀is:List Int,is.length<=63->qX [.lst (is.map .int)] [] (λv _=>v = .bool W) λ_ _ _=>False):akl.Holds:=aiA (aiB a)
end
end Mine.Lean
theorem PySem.Challenge.cw_nm0165_01_holds : PySem.Challenge.rw_nm0165_01.Holds :=
  Mine.Lean.holds_of fun is hl => Mine.Lean.ai9 hl fun G => rfl
