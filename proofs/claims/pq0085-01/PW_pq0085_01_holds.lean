import PyProof.Rows.All
import Wide.All
import OpenK.AllK
import Wide.FinOn
import Lean
import PySem.Challenge.RW_pq0085_01
open Option renaming some->j',none->kf,map_eq_some_iff->EY,isSome_iff_exists->FZ,ne_none_iff_exists'->Iu,map_some->I5,isNone_iff_eq_none->Mc,isSome_none->Oe,getD_some->OW,getD_none->OX,bind_some->O8
open PySem renaming wpAny_bind->s0,wpAny_pure->tk,wpAny->Ey,model->EE,Value->EI,Str->EJ,wpAny_mono->EK,Shared->EQ,Addr->EZ,wpAny_holding->E4,Expr->Ff,wpAny_call_entry->Fs,wpAny_newObj_type->Fu,NameKind->Fv,wpAny_setState_of->FV,DictEntry->FX,Heap->F6,World->F7,wpAny_callSpecial?_slot->F',wpAny_standAt->Gc,sizeLine_eq->Gp,intKind->Gu,foldedSetIterable->Gw,wpAny_truthy_bool->Gx,cLine->Gz,Around->GI,wpAny_setField->GP,starEach->GQ,wpAny_ite_split->GW,rawInt->G4,wpAny_dictEntries->G7,wpAny_rule->G9,eval->Hb,Program->Hc,call->Hg,codeAny->Hl,sysModules->HB,SetTable->HE,backTo->HH,mainGlobals->HN,wpAny_of_eq->HO,wpAny_typeNameOfWhole_itemiter->HT,wpAny_comprehension_free->HU,wpAny_typeNameOfWhole_valiter->H_,wpAny_notOrdered_dict->Il,Builtin->Im,importedModules->Iq,mem_of_lookup->Is,setSearchFrom->Iv,pyNext->Ix,Env->IC,binaryOp->II,codeAny_mono->IJ,wpAny_attempt->IU,comprehension->IY,wpAny_specialOf->I2,wpAny_dictEpoch->I6,IsItemIter->I8,wpAny_setField_rec->I9,codeAny_builtin->Jd,wpAny_field->Jf,wpAny_pyIter_slot->Jh,wpAny_fieldsOf->Jk,wpAny_forIn_list->Jq,wpAny_isInstance->Jr,wpAny_askSetting->Js,pyIter->Ju,behindInMarks->Jx,bootBuiltins->JO,wpAny_seqItems->JX,Sem->J2,Pos->J3,wpAny_pyIter_list->J5,wpAny_sequenceKey->J6,wpAny_storeSet_of->J9,wpAny_pyNext_list_item->Ka,wpAny_isOneOf_itemiter->Kb,swappedStores->Ki,relayAll->Kr,wpAny_pyNext_list_end->Ks,wpAny_isOneOf_valiter->Kt,standAt->Ku,holding->Kv,theTreesLotGoes->KG,wpAny_newFunctionEnv->KH,wpAny_updateDictKeys->KJ,wpAny_typeOf->KP,list_getitem_lookup->K9,Stmt->K_,firstArgMember->La,spliced->Lc,bindName->Lf,compareOp->Ll,cellsFrom->Lm,slot_dict_contains->Lp,swapsWith->Ls,Thread->Lt,Comprehension->LH,step->LO,plainId_quiet->LU,slot_dict_getitem->L0,getMethod_builtin->L1,ofAClassStatement->L4,assignEach->L9,Scope->L_,setEntries->Mg,OsState->Mh,callWith->Mm,wpAny_getItem_list_slice->Mp,setAddHashed->Mu,letOwnedTupleGo->MG,noteFrame->MH,wpAny_execs_nil->ML,exec_Assign_arm->MM,codeAny_of_tree->MN,treeTable->MO,bindL->MV,bindC->MW,unpackItems->MX,wpAny_noted->MY,codeAny_compStart_list->MZ,wpAny_richCompare_same->Na,wpAny_pyIter_listiter->Nc,entryFor_alias->Nd,isSubtype_stop->Ng,wpAny_newTuple->Nh,assign->Ni,Result->Nj,relabel->Nk,dictSetDefault->Nl,newDict->Nm,getItem->Nn,getD_mem->Nq,setAddHashedIn->Nw,setAdd->Nx,builtinLookup_eq_fast->Nz,isSubtype_type->NA,builtinsNs->NE,raiseNew->NF,compTurn->NG,numAt_eq->NK,compPost->NM,IsItemIterOut->NW,assignInOrder->NY,wpAny_UnaryOp->NZ,evalPart_some->N0,evalPart_none->N1,nums_intItems->N2,swapsWithSole->N3,wpAny_newList->N4,isTrue->Od,codeAny_loop->Of,dictSet->Oz,newList->OD,setItem->OE
open List renaming mem_singleton->ta,mem_cons_self->Eu,mem_cons_of_mem->Ev,length_map->Ex,not_mem_nil->Ez,mem_cons->EG,length_append->EH,getElem?_eq_getElem->EL,getElem?_eq_some_iff->EN,mem_map->EO,getElem?_map->ET,mem_of_getElem?->E0,mem_append->E1,range->E3,getD_eq_getElem?_getD->E9,map_map->Fb,length_cons->Fi,length_singleton->Fj,size_toArray->Fk,length_range->Fo,lookup_cons->Fw,mem_map_of_mem->Fx,mem_append_right->Fz,all_eq_true->FE,nodup_cons->FH,map_congr_left->FJ,mem_append_left->FK,append_nil->FR,append_assoc->FS,pairwise_singleton->FW,mem_range->F3,getElem?_eq_none_iff->Ga,getElem?_append_left->Gb,nodup_append->Gd,mem_iff_getElem?->Gj,map_append->Gk,getElem?_append_right->Gm,map_cons->Gq,drop_eq_getElem_cons->GH,getElem?_range->GJ,drop_eq_nil_of_le->G5,getElem?_eq_none->Hd,getElem?_toArray->He,zip_cons_cons->Hf,length_take->Hh,length->Hk,getElem?_set_ne->Hn,getElem?_cons_succ->Hq,length_eq_zero_iff->Hr,mem_filter->Hv,getElem?_set_self->Hz,sum_cons->HD,length_set->HV,pairwise_map->HY,pairwise_cons->If,length_nil->Ik,nil_append->Ir,map_nil->IE,getElem_mem->IM,filterMap_cons->IR,getElem?_cons_zero->IT,eq_nil_of_length_eq_zero->Jg,mem_reverse->Jt,all_cons->Jv,of_mem_zip->JD,casesOn->JL,filterMap_cons_some->JQ,mem_filterMap->JS,idxOf_append->J7,take_of_length_le->Kc,findIdx?_eq_some_iff_getElem->Kd,map_id->Ke,any_cons->Kh,any_eq_true->Km,take_length->Kn,length_drop->Kq,length_filter_le->Kx,range_succ->KO,sum_append->KQ,pairwise_append->KY,drop_append_of_le_length->K6,append_toArray->K8,drop_zero->Lb,findIdx?_cons->Lo,length_zipIdx->Lv,getElem?_drop->Lx,drop_nil->LD,fst_mem_of_mem_zipIdx->LQ,perm_ext_iff_of_nodup->LR,findIdx?_eq_none_iff->L',mem_of_find?_eq_some->Ma,mem_flatMap->Mj,cons_ne_nil->Ml,sum_nil->Mq,map_set->Mr,nodup_range->Ms,filter_cons_of_neg->MA,filter_cons_of_pos->MC,filter_nil->MP,filter_eq_nil_iff->MU,pairwise_lt_range->M4,length_eq_one_iff->M5,filterMap_append->No,mem_of_mem_take->NL,idxOf->NO,idxOf_cons_self->NP,length_pos_iff->N',length_reverse->Ob,filterMap_map->Og,getElem?_take->Ou,reverse_cons->OI,take_add_one->OJ,getElem?_nil->OK,ext_getElem?->OL,mapM_toArray->ON,lookup->OO,all_toArray->OT,map_reverse->OZ,cons->Pk
open Bool renaming true->Do,false->EF,noConfusion->EX,false_ne_true->E2,false_eq_true->Fh,and_eq_true->Ft,and_eq_true_iff->GY,eq_iff_iff->Ij,not_eq_true'->Iw,or_eq_true->KL,true_and->NV,or_eq_true_iff->N8,not_eq_true->OU
open PySem.Str renaming ofString->Et
open Nat renaming lt_of_lt_of_le->Ew,le_add_right->EB,le_trans->ED,le_refl->EM,ne_of_lt->EP,lt_of_le_of_lt->ER,ne_of_gt->EW,zero_le->E8,le_of_lt->Fa,le_of_lt_succ->Fp,lt_succ_self->Fq,lt_succ_of_le->FD,exists_eq_succ_of_ne_zero->F9,not_lt->Gf,lt_succ_of_lt->Gn,lt_trans->GA,not_lt_zero->GB,succ_le_succ->GF,lt_irrefl->GN,le_succ->GV,le_of_eq->Hx,lt_or_ge->HW,max_eq_right->Ia,lt_of_succ_lt_succ->Ic,lt_of_le_of_ne->Ig,strongRecOn->Ii,le_succ_of_le->Iy,min_eq_right->IG,le_max_right->IL,zero_add->IN,not_le_of_lt->IP,min_eq_left->IZ,noConfusion->Ja,le_max_left->Jb,le_total->Jm,sub_self->Jn,succ_pos->Jo,sub_lt_sub_left->Jz,max_eq_left->JB,le_antisymm->JE,add_right_comm->JR,mul_le_mul->J0,le_of_succ_le_succ->J',mod_lt->K3,add_le_add_left->K7,lt_or_eq_of_le->Ly,lt_trichotomy->L2,max_lt->Md,sub_le->Me,lt_succ_iff_lt_or_eq->Mt,min_le_left->ME,le_add_left->MR,add_sub_cancel->Oh,add_comm->Op,pow_succ->Oq,blt->Ox,casesOn->OR,not_le->Pd
open Option.some renaming inj->EA,injEq->OH
open Int renaming le_trans->EC,lt_of_le_of_lt->E7,lt_of_lt_of_le->Fc,le_of_lt->Fy,not_lt->FC,toNat_natCast->FM,min_le_right->FO,le_max_right->FP,min_le_left->FT,le_max_left->FU,natCast_nonneg->Gh,neg_nonpos_of_nonneg->Gi,ofNat_inj->Gl,max_eq_right->Gr,le_min->Gt,le_refl->Gv,max_le->GC,min_eq_right->GD,neg_le_neg->GR,min_eq_left->GU,mul_comm->G3,max_eq_left->G8,mul_le_mul_of_nonneg_right->G_,neg_lt_neg->Ho,ofNat_le->HP,lt_trans->Ie,le_antisymm->Ip,neg_mul->IB,sub_nonneg->ID,le_total->IF,add_le_add->Ji,toNat_of_nonneg->JA,zero_add->JF,add_zero->JG,zero_mul->JH,ne_of_gt->JI,mul_nonpos_of_nonpos_of_nonneg->J4,one_mul->J_,mul_zero->Ky,natCast_mul->Kz,add_comm->KA,not_le->KC,add_le_add_right->KD,mul_le_mul_of_nonpos_right->KU,lt_add_one_of_le->KW,lt_iff_le_and_ne->KX,mul_le_mul_of_nonneg_left->K5,emod_lt_of_pos->Lu,toNat_lt->Mo,eq_ofNat_of_zero_le->Mz,emod_nonneg->MQ,mul_add->MT,neg_add->M6,mul_neg->M7,mul_nonneg->Nb,sub_le_sub_right->NQ,le_sub_one_of_lt->NR,lt_neg_of_lt_neg->NS,lt_of_neg_lt_neg->NT,ne_of_lt->Oc,toNat->Om,toNat_lt_toNat->Oo,add_sub_cancel->Ot
open PySem.Heap renaming get?_push_size->ES,get?_push_of_some->EV,lt_size->E_,get?_update_self->FY,get?_none_of_le->Gg,SameBut->Gs,size_push->HG,ExtBut->Je,get?_update_other->Kf,get?_push_ne->OM,size_update->O7
open Array renaming length_toList->EU,getElem?_eq_getElem->E6,getElem?_toList->Fd,getElem?_eq_some_iff->FG,getD_eq_getD_getElem?->GX,forIn_toList->JK,replicate->KZ,size_replicate->K0,getElem?_empty->K4,getElem?_setIfInBounds->Lj,size_map->Lk,getElem?_eq_none_iff->LV,perm_iff_toList_perm->LY,toList_push->L6,getElem?_eq_none->M8,size_range->O1,size_push->Pb
open PySem.Heap.SameBut renaming update->E5,refl->LZ
open Prod renaming fst->Fe
open PyProof.Rows renaming seqObj->FF,wpS_bind->FQ,wpS_pure->GG,wpS->G0,SortSt->HL,subscriptTail->IX,slot_tuple_getitem->I_,Keyed->JV,wpS_forRange->JW,arrOf->Kj,Call_Name->Kw,tuples'->Mi,listItems_at->Mw,pairsOf_size->Mx,pendingOf->MS,dflt->M1,wpS_reverse->M9,mirror_perm->M_,IntsAre->Np,wpS_get->NC,neg_int->NI,Subscript_->NJ,sortedHeap->NN,sortedHeap_at->N5,listUpdate_at->N7,pairsOf->OF
open PySem.SetTable renaming below->FL,runEnd->FN,bits->Ge,insertAt->GK,toList_insertAt->GS,grown->HK,advance->IQ,turns->Jp,sizeAbove->JT,layClean->L5,Probe->Nv,laid->N6,has->Ov,orStandIn->Ow,relaid->Pa,probe->Ph,slot->Pl,fits->Pn,fill->Po
open PySem.Value renaming ref->F8,none->GZ,isInt->Hy,isInt_shape->Iz,type->NU
open Classical renaming propDecidable->F_,byContradiction->JC,em->JJ,not_not->L3
open PySem.SetTable.probe renaming go->Gy
open PySem.Builtin.Dict_items renaming ownsTuple->GO,ownedTupleIsFree->JZ,pairFromOwner->Ko,newIterator->KE,dictOf->L8,ownedTupleFields->Oy
open PySem.Obj renaming mapSeq->Ha,mapFields->HZ,data_mapFields->JM,putSet->Mf,isFreed_of_fields->Nf,cls_mapFields->OG,putName->OP
open PySem.W renaming boot_heap->Hi,kindOf->IH,instObj->JY,Frag->KN,SharedT->Lg,emptyDict->Lq,findIn->Ol
open PySem.F renaming called_set->Hj,slot_dict_get->Jl,slot_dict_setdefault->Ld,args_tuple_add_2->Mk,entry_tuple_add->My,plain_list_iadd->MD,slot_tuple_add->M0,entry_dict_get->M3,type_dict_get->Nr,slot_dict_pop->Nt,plain_set_new->Ny,slot_set_iter->NB
open PySem.Calls renaming spliced_nil->Ht,spliced_cons->HJ,Name_function_global->LM,call_function_entry->Mb
open List.Pairwise renaming nil->Hu,sublist->Nu
open Nat.succ renaming inj->Hw
open PySem.SetTable.layClean renaming free->HA
open Ne renaming symm->HF
open False renaming elim->HQ
open PySem.PyData renaming keyHash->Ib,eqv->ND,depthAll->O_
open PyProof.Rows.F renaming plain_set_update_loop->Ih,entry_set_update_loop->JU
open ForInStep renaming yield->Io
open PySem.Around renaming under_plainId->IA
open PySem.Builtin.Tuple renaming tupleExact->IK,tupleItemsOf->LG,tupleHashOf->L7
open Eq renaming symm->IV
open PySem.NameKind renaming free->IW
open List.Nodup renaming length_le_of_subset->Jc
open PySem.Builtin.Dict renaming showsAll->Jj,keyAndDefault->Jy,takeOut->NH,noArgs->N9,missed->Oa
open List.cons renaming inj->Jw
open PySem.Expr renaming casesOn->JN
open PySem.Heap.IsSliceOf renaming new->JP
open List.Perm renaming refl->J1,of_eq->Pc,cons->Pj
open PySem.SetTable.below renaming go->J8
open PySem.Builtin.List renaming listItems->Kg,listLengthHint->Lz,listExtendWith->LB,listSameRef->Mv
open PySem.Challenge renaming rw_pq0085_01->Lh
open PySem.SetFound renaming there->Li
open PySem.Builtin.Range renaming rangeFitsLong->Lr
open Prod.mk renaming injEq->LK,inj->OS
open PySem.Builtin.Slice renaming sliceApplied->LN
open PySem.Code renaming builtin->Mn
open PySem.Shared renaming TypeIs->NX
open PySem.Builtin.Int renaming intBits->N_
open PySem.Flow renaming next->Oi
open And renaming intro->Oj,left->OY
open WellFounded renaming fix_eq->On
open PySem.Txt renaming isspace->OQ
open PySem.StrLaws renaming subAt_eq->OV
open Array.Perm renaming refl->Pe
open PyProof.Rows.IntsAre renaming length->Pf
open Iff renaming rfl->Pg
open PySem.Value.ref renaming inj->Pm
open PySem.pickOrder renaming go->Pp
set_option Elab.async false
set_option maxRecDepth 100000
set_option autoImplicit true
set_option genSizeOf false
set_option genSizeOfSpec false
set_option linter.all false
set_option backward.match.sparseCases false
set_option tactic.hygienic false
noncomputable section
namespace Mine.Internal
theorem dd{j:Prop}[h:Decidable j](e:Do=decide j:=by rfl):j:=of_decide_eq_true e.symm
theorem aC{c:Prop}{h:Decidable c}(a:¬c){α:Sort _}{t e:α}:ite c t e=e:=if_neg a
theorem aF{c:Prop}{h:Decidable c}(hc:c){α:Sort _}{t e:α}:ite c t e=t:=if_pos hc
theorem aJ{d p:Prop}(h:d)(g:¬d):p:=absurd h g
theorem aY{α:Sort _}{β:Sort _}{d p:α}(w:α->β)(h:d=p):w d=w p:=congrArg w h
theorem dI{j:Prop}[h:Decidable j](e:j):decide j=true:=decide_eq_true e
theorem ga{j:Prop}[h:Decidable j](e:¬j):decide j=false:=decide_eq_false e
theorem aN{f i:Prop}{P:Prop}(h:f/\i)(k:f->i->P):P:=k h.1 h.2
theorem aZ{f i a:Prop}{P:Prop}(h:f/\i/\a)(k:f->i->a->P):P:=k h.1 h.2.1 h.2.2
theorem bM{f i a e:Prop}{P:Prop}(h:f/\i/\a/\e)(k:f->i->a->e->P):P:=k h.1 h.2.1 h.2.2.1 h.2.2.2
theorem jT{f i a e l:Prop}{P:Prop}(h:f/\i/\a/\e/\l)(k:f->i->a->e->l->P):P:=k h.1 h.2.1 h.2.2.1 h.2.2.2.1 h.2.2.2.2
theorem hu{f i a e l m:Prop}{P:Prop}(h:f/\i/\a/\e/\l/\m)(k:f->i->a->e->l->m->P):P:=k h.1 h.2.1 h.2.2.1 h.2.2.2.1 h.2.2.2.2.1 h.2.2.2.2.2
theorem m'{f i a e l m b:Prop}{P:Prop}(h:f/\i/\a/\e/\l/\m/\b)(k:f->i->a->e->l->m->b->P):P:=k h.1 h.2.1 h.2.2.1 h.2.2.2.1 h.2.2.2.2.1 h.2.2.2.2.2.1 h.2.2.2.2.2.2
theorem Eo{f i a e l m b j d:Prop}{P:Prop}(h:f/\i/\a/\e/\l/\m/\b/\j/\d)(k:f->i->a->e->l->m->b->j->d->P):P:=k h.1 h.2.1 h.2.2.1 h.2.2.2.1 h.2.2.2.2.1 h.2.2.2.2.2.1 h.2.2.2.2.2.2.1 h.2.2.2.2.2.2.2.1 h.2.2.2.2.2.2.2.2
theorem ax{d:Sort _}{f:d->Prop}{P:Prop}(h:∃x,f x)(k:∀x,f x->P):P:=h.elim λx h=>k x h
theorem aA{d:Sort _}{f i:d->Prop}{P:Prop}(h:∃x,f x/\i x)(k:∀x,f x->i x->P):P:=h.elim λx h=>k x h.1 h.2
theorem a4{d:Sort _}{f i a:d->Prop}{P:Prop}(h:∃x,f x/\i x/\a x)(k:∀x,f x->i x->a x->P):P:=h.elim λx h=>k x h.1 h.2.1 h.2.2
theorem b5{d:Sort _}{f i a e:d->Prop}{P:Prop}(h:∃x,f x/\i x/\a x/\e x)(k:∀x,f x->i x->a x->e x->P):P:=h.elim λx h=>k x h.1 h.2.1 h.2.2.1 h.2.2.2
theorem jU{d:Sort _}{f i a e l:d->Prop}{P:Prop}(h:∃x,f x/\i x/\a x/\e x/\l x)(k:∀x,f x->i x->a x->e x->l x->P):P:=h.elim λx h=>k x h.1 h.2.1 h.2.2.1 h.2.2.2.1 h.2.2.2.2
theorem hZ{d:Sort _}{f i a e l m:d->Prop}{P:Prop}(h:∃x,f x/\i x/\a x/\e x/\l x/\m x)(k:∀x,f x->i x->a x->e x->l x->m x->P):P:=h.elim λx h=>k x h.1 h.2.1 h.2.2.1 h.2.2.2.1 h.2.2.2.2.1 h.2.2.2.2.2
theorem pJ{d:Sort _}{f i a e l m b:d->Prop}{P:Prop}(h:∃x,f x/\i x/\a x/\e x/\l x/\m x/\b x)(k:∀x,f x->i x->a x->e x->l x->m x->b x->P):P:=h.elim λx h=>k x h.1 h.2.1 h.2.2.1 h.2.2.2.1 h.2.2.2.2.1 h.2.2.2.2.2.1 h.2.2.2.2.2.2
theorem u7{d:Sort _}{f i a e l m b j:d->Prop}{P:Prop}(h:∃x,f x/\i x/\a x/\e x/\l x/\m x/\b x/\j x)(k:∀x,f x->i x->a x->e x->l x->m x->b x->j x->P):P:=h.elim λx h=>k x h.1 h.2.1 h.2.2.1 h.2.2.2.1 h.2.2.2.2.1 h.2.2.2.2.2.1 h.2.2.2.2.2.2.1 h.2.2.2.2.2.2.2
theorem cL{d:Sort _}{j:Sort _}{f:d->j->Prop}{P:Prop}(h:∃x,∃u,f x u)(k:∀x u,f x u->P):P:=h.elim λx h=>h.elim λu h=>k x u h
theorem bn{d:Sort _}{j:Sort _}{f i:d->j->Prop}{P:Prop}(h:∃x,∃u,f x u/\i x u)(k:∀x u,f x u->i x u->P):P:=h.elim λx h=>h.elim λu h=>k x u h.1 h.2
theorem cM{d:Sort _}{j:Sort _}{f i a:d->j->Prop}{P:Prop}(h:∃x,∃u,f x u/\i x u/\a x u)(k:∀x u,f x u->i x u->a x u->P):P:=h.elim λx h=>h.elim λu h=>k x u h.1 h.2.1 h.2.2
theorem hw{d:Sort _}{j:Sort _}{f i a e:d->j->Prop}{P:Prop}(h:∃x,∃u,f x u/\i x u/\a x u/\e x u)(k:∀x u,f x u->i x u->a x u->e x u->P):P:=h.elim λx h=>h.elim λu h=>k x u h.1 h.2.1 h.2.2.1 h.2.2.2
theorem i9{d:Sort _}{j:Sort _}{f i a e l:d->j->Prop}{P:Prop}(h:∃x,∃u,f x u/\i x u/\a x u/\e x u/\l x u)(k:∀x u,f x u->i x u->a x u->e x u->l x u->P):P:=h.elim λx h=>h.elim λu h=>k x u h.1 h.2.1 h.2.2.1 h.2.2.2.1 h.2.2.2.2
theorem nc{d:Sort _}{j:Sort _}{f i a e l m:d->j->Prop}{P:Prop}(h:∃x,∃u,f x u/\i x u/\a x u/\e x u/\l x u/\m x u)(k:∀x u,f x u->i x u->a x u->e x u->l x u->m x u->P):P:=h.elim λx h=>h.elim λu h=>k x u h.1 h.2.1 h.2.2.1 h.2.2.2.1 h.2.2.2.2.1 h.2.2.2.2.2
theorem jV{d:Sort _}{j:Sort _}{f i a e l m b:d->j->Prop}{P:Prop}(h:∃x,∃u,f x u/\i x u/\a x u/\e x u/\l x u/\m x u/\b x u)(k:∀x u,f x u->i x u->a x u->e x u->l x u->m x u->b x u->P):P:=h.elim λx h=>h.elim λu h=>k x u h.1 h.2.1 h.2.2.1 h.2.2.2.1 h.2.2.2.2.1 h.2.2.2.2.2.1 h.2.2.2.2.2.2
theorem fJ{d:Sort _}{j:Sort _}{n:Sort _}{f i:d->j->n->Prop}{P:Prop}(h:∃x,∃u,∃M,f x u M/\i x u M)(k:∀x u M,f x u M->i x u M->P):P:=h.elim λx h=>h.elim λu h=>h.elim λM h=>k x u M h.1 h.2
theorem dJ{d:Sort _}{j:Sort _}{n:Sort _}{f i a e:d->j->n->Prop}{P:Prop}(h:∃x,∃u,∃M,f x u M/\i x u M/\a x u M/\e x u M)(k:∀x u M,f x u M->i x u M->a x u M->e x u M->P):P:=h.elim λx h=>h.elim λu h=>h.elim λM h=>k x u M h.1 h.2.1 h.2.2.1 h.2.2.2
theorem gB{d:Sort _}{j:Sort _}{n:Sort _}{f i a e l:d->j->n->Prop}{P:Prop}(h:∃x,∃u,∃M,f x u M/\i x u M/\a x u M/\e x u M/\l x u M)(k:∀x u M,f x u M->i x u M->a x u M->e x u M->l x u M->P):P:=h.elim λx h=>h.elim λu h=>h.elim λM h=>k x u M h.1 h.2.1 h.2.2.1 h.2.2.2.1 h.2.2.2.2
theorem hx{d:Sort _}{j:Sort _}{n:Sort _}{f i a e l m:d->j->n->Prop}{P:Prop}(h:∃x,∃u,∃M,f x u M/\i x u M/\a x u M/\e x u M/\l x u M/\m x u M)(k:∀x u M,f x u M->i x u M->a x u M->e x u M->l x u M->m x u M->P):P:=h.elim λx h=>h.elim λu h=>h.elim λM h=>k x u M h.1 h.2.1 h.2.2.1 h.2.2.2.1 h.2.2.2.2.1 h.2.2.2.2.2
theorem g1{d:Sort _}{j:Sort _}{n:Sort _}{l:Sort _}{f:d->j->n->l->Prop}{P:Prop}(h:∃x,∃u,∃M,∃r,f x u M r)(k:∀x u M r,f x u M r->P):P:=h.elim λx h=>h.elim λu h=>h.elim λM h=>h.elim λr h=>k x u M r h
theorem jW{d:Sort _}{j:Sort _}{n:Sort _}{l:Sort _}{f i a:d->j->n->l->Prop}{P:Prop}(h:∃x,∃u,∃M,∃r,f x u M r/\i x u M r/\a x u M r)(k:∀x u M r,f x u M r->i x u M r->a x u M r->P):P:=h.elim λx h=>h.elim λu h=>h.elim λM h=>h.elim λr h=>k x u M r h.1 h.2.1 h.2.2
theorem e9{d:Sort _}{j:Sort _}{n:Sort _}{l:Sort _}{f i a e:d->j->n->l->Prop}{P:Prop}(h:∃x,∃u,∃M,∃r,f x u M r/\i x u M r/\a x u M r/\e x u M r)(k:∀x u M r,f x u M r->i x u M r->a x u M r->e x u M r->P):P:=h.elim λx h=>h.elim λu h=>h.elim λM h=>h.elim λr h=>k x u M r h.1 h.2.1 h.2.2.1 h.2.2.2
theorem bm{d:Sort _}{f i:d->Prop}(x:d)(h0:f x)(J:i x):∃x,f x/\i x:=⟨x,h0,J⟩
theorem gb{d:Sort _}{f i a:d->Prop}(x:d)(h0:f x)(J:i x)(L:a x):∃x,f x/\i x/\a x:=⟨x,h0,J,L⟩
theorem ee{d:Sort _}{f i a e:d->Prop}(x:d)(h0:f x)(J:i x)(L:a x)(b:e x):∃x,f x/\i x/\a x/\e x:=⟨x,h0,J,L,b⟩
theorem u8{d:Sort _}{f i a e l m:d->Prop}(x:d)(h0:f x)(J:i x)(L:a x)(b:e x)(h4:l x)(h5:m x):∃x,f x/\i x/\a x/\e x/\l x/\m x:=⟨x,h0,J,L,b,h4,h5⟩
theorem h1{d:Sort _}{j:Sort _}{f:d->j->Prop}(x:d)(u:j)(h0:f x u):∃x,∃u,f x u:=⟨x,u,h0⟩
theorem dR{d:Sort _}{j:Sort _}{f i:d->j->Prop}(x:d)(u:j)(h0:f x u)(J:i x u):∃x,∃u,f x u/\i x u:=⟨x,u,h0,J⟩
theorem dZ{d:Sort _}{j:Sort _}{f i a:d->j->Prop}(x:d)(u:j)(h0:f x u)(J:i x u)(L:a x u):∃x,∃u,f x u/\i x u/\a x u:=⟨x,u,h0,J,L⟩
theorem u9{d:Sort _}{j:Sort _}{f i a e l:d->j->Prop}(x:d)(u:j)(h0:f x u)(J:i x u)(L:a x u)(b:e x u)(h4:l x u):∃x,∃u,f x u/\i x u/\a x u/\e x u/\l x u:=⟨x,u,h0,J,L,b,h4⟩
theorem i_{d:Sort _}{j:Sort _}{n:Sort _}{f i:d->j->n->Prop}(x:d)(u:j)(M:n)(h0:f x u M)(J:i x u M):∃x,∃u,∃M,f x u M/\i x u M:=⟨x,u,M,h0,J⟩
theorem h2{d:Sort _}{j:Sort _}{n:Sort _}{f i a e:d->j->n->Prop}(x:d)(u:j)(M:n)(h0:f x u M)(J:i x u M)(L:a x u M)(b:e x u M):∃x,∃u,∃M,f x u M/\i x u M/\a x u M/\e x u M:=⟨x,u,M,h0,J,L,b⟩
theorem pK{d:Sort _}{j:Sort _}{n:Sort _}{f i a e l:d->j->n->Prop}(x:d)(u:j)(M:n)(h0:f x u M)(J:i x u M)(L:a x u M)(b:e x u M)(h4:l x u M):∃x,∃u,∃M,f x u M/\i x u M/\a x u M/\e x u M/\l x u M:=⟨x,u,M,h0,J,L,b,h4⟩
theorem ng{d:Sort _}{j:Sort _}{n:Sort _}{l:Sort _}{f i a e:d->j->n->l->Prop}(x:d)(u:j)(M:n)(r:l)(h0:f x u M r)(J:i x u M r)(L:a x u M r)(b:e x u M r):∃x,∃u,∃M,∃r,f x u M r/\i x u M r/\a x u M r/\e x u M r:=⟨x,u,M,r,h0,J,L,b⟩
end Mine.Internal
set_option genInjectivity false
set_option genCtorIdx false
namespace Mine.Internal.ZZ
inductive aD|at(i:Nat)|k(n:Nat)|sc(l:Bool)(c:Nat)(a:aD)|bin(o:Nat)(a b:aD)
inductive F|rel(o:Nat)(a b:aD)|con(o:Nat)(p q:F)
abbrev Ln:=Int×List Int
noncomputable def pL(x u:Nat):Nat->Nat|0=>x+u|1=>x-u|2=>min x u|_=>max x u
noncomputable def pM(l:Nat)(x u:Int):Nat->Int|0=>x+u|1=>x-u|2=>min x u|3=>max x u|4=>(l:Int)|_=>-x
noncomputable def dT(z:List Nat):aD->Nat×Int|.at i=>(z.getD i 0,0)|.k l=>(l,(l:Int))|.sc m c d=>(bif m then c*(dT z d).1 else(dT z d).1*c,bif m then(c:Int)*(dT z d).2 else(dT z d).2*(c:Int))|.bin D d p=>(pL (dT z d).1 (dT z p).1 D,pM (dT z d).1 (dT z d).2 (dT z p).2 D)
def rl(j q:Nat×Int):Nat->Prop|0=>j.1<=q.1|1=>j.1<q.1|2=>j.1=q.1|3=>j.2<=q.2|4=>j.2<q.2|5=>j.2=q.2|_=>False
def cn(j q:Prop):Nat->Prop|0=>j/\q|1=>j\/q|2=>j->q|_=>¬j
noncomputable def dn(z:List Nat):F->Prop|.rel D d p=>rl (dT z d) (dT z p) D|.con D j q=>cn (dn z j) (dn z q) D
noncomputable def nh(d:List Int):List Int->List Int:=d.rec (λp=>p) λx d ih p=>match p with|[]=>x::d|u::p=>(x+u)::ih p
noncomputable def hy(d p:Ln):Ln:=(d.1+p.1,nh d.2 p.2)
noncomputable def fK(y:Int)(d:Ln):Ln:=(y*d.1,d.2.map (y*·))
noncomputable def cN(d p:Ln):Ln:=hy d<|fK (-1) p
noncomputable def h3(d p:Ln):Ln:=hy (-1,[])<|cN d p
noncomputable def cx:List Int->List Nat->Int|c::cs,x::z=>c*x+cx cs z|_,_=>0
noncomputable def ev(z:List Nat)(m:Ln):Int:=m.1+cx m.2 z
abbrev Cs:=List<|List Ln×Ln
noncomputable def gC(w:Ln->Ln->Cs)(N B:Cs):Cs:=N.flatMap λd=>B.flatMap λp=>(w d.2 p.2).map λc=>(c.1++(d.1++p.1),c.2)
noncomputable def jX:Nat->List Int|0=>[1]|i+1=>0::jX i
noncomputable def pN(M:Bool)(d p:Ln):Nat->Cs|0=>[([],hy d p)]|1=>bif M then[([],cN d p)]else[([cN d p],cN d p),([cN p d],(0,[]))]|2=>[([cN p d],d),([cN d p],p)]|3=>[([cN p d],p),([cN d p],d)]|4=>bif M then[([],d)]else[([cN p d],p),([cN d p],d)]|_=>bif M then[([],fK (-1) d)]else[([cN p d],p),([cN d p],d)]
noncomputable def tr(M:Bool):aD->Cs|.at i=>[([],(0,bif M then[]else jX i))]|.k l=>[([],((l:Int),[]))]|.sc _ c d=>(tr M d).map λj=>(j.1,fK (c:Int) j.2)|.bin D d p=>gC (λd p=>pN M d p D) (tr (M&&D !=4) d)<|tr M p
noncomputable def ni(r:Bool)(d p:Ln):Cs:=[([bif r then cN p d else h3 d p],d)]
noncomputable def nj(r:Bool)(d p:Ln):Cs:=[([bif r then h3 p d else cN d p],d)]
noncomputable def nk(r:Bool)(d p:Ln):Cs:=bif r then[([cN d p,cN p d],d)]else[([h3 d p],d),([h3 p d],d)]
noncomputable def pO(r:Bool)(d p:aD):Nat->Cs|0=>gC (ni r) (tr EF d)<|tr EF p|1=>gC (nj r) (tr EF d)<|tr EF p|2=>gC (nk r) (tr EF d)<|tr EF p|3=>gC (ni r) (tr Do d)<|tr Do p|4=>gC (nj r) (tr Do d)<|tr Do p|5=>gC (nk r) (tr Do d)<|tr Do p|_=>bif r then[]else[([],(0,[]))]
noncomputable def hd(m:Ln):Int:=m.2.headD 0
noncomputable def tl(m:Ln):Ln:=(m.1,m.2.tail)
noncomputable def nl(g:Int)(m:Ln):Ln:=bif decide (0<g)&&m.2.all λc=>c%g==0 then(m.1/g,m.2.map (·/g))else m
noncomputable def ly(m:Ln):Ln:=nl ((m.2.find? (·!=0)).getD 0).natAbs m
noncomputable def pP(n:List Ln):List Ln:=(n.filter λm=>hd m==0).map tl++((n.filter λm=>decide<|hd m<0).map tl++(n.filter λm=>decide<|0<hd m).flatMap λj=>(n.filter λm=>decide<|hd m<0).map λq=>ly<|tl<|hy (fK (-hd q) j)<|fK (hd j) q)
noncomputable def jY:Nat->List Ln->Bool|0,_=>EF|l+1,n=>n.any (λm=>decide (m.1<0)&&m.2.all λc=>decide<|c<=0)||jY l (pP n)
noncomputable def pQ(r:Bool)(j q:F):Nat->List (List<|Bool×F)|0=>bif r then[[(r,j),(r,q)]]else[[(r,j)],[(r,q)]]|1=>bif r then[[(r,j)],[(r,q)]]else[[(r,j),(r,q)]]|2=>bif r then[[(EF,j)],[(r,q)]]else[[(r,q),(Do,j)]]|_=>[[(!r,j)]]
noncomputable def ref(l:Nat):List Ln->List (Bool×F)->Bool:=l.rec (λn G=>jY 20 n) λG ih n t=>t.casesOn (jY 20 n) λw t=>w.2.casesOn (λD d p=>(λaf=>af.all λc=>af.length !=1&&jY 20 (c.1.map ly++n)||ih (c.1.map ly++n) t)<|pO w.1 d p D) λD j q=>(pQ w.1 j q D).all λm=>ih n<|m++t
theorem g2(z:List Nat):cx [] z=0:=by induction z<;>rfl
theorem u_:∀{p}{z},cx (nh d p) z=cx d z+cx p z:=by induction d with|nil=>exactλ{p z}=>(JF _).symm.trans<|aY (·+_) (g2 z).symm|cons x d ih=>intro p z;induction p with|nil=>exact(JG _).symm.trans<|aY (_+·) (g2 z).symm|cons u p=>induction z with|nil=>rfl|cons l z=>show(x+u)*l+cx (nh d p) z=x*l+cx d z+(u*l+cx p z);rw[ih,Int.add_mul];ac_rfl
theorem jZ:ev z (hy d p)=ev z d+ev z p:=by unfold ev hy;rw[u_];ac_rfl
theorem u':∀{z},cx (d.map (y*·)) z=y*cx d z:=by induction d with|nil=>exactλ{z}=>by rw[IE,g2,Ky]|cons x d ih=>intro z;induction z with|nil=>exact(Ky y).symm|cons l z=>show y*x*l+cx (d.map (y*·)) z=y*(x*l+cx d z);rw[ih,MT,Int.mul_assoc]
theorem j0:ev z (fK y d)=y*ev z d:=by unfold ev fK;rw[u',MT]
theorem g3:ev z (cN d p)=ev z d-ev z p:=by unfold cN;rw[jZ,j0,IB,J_];rfl
theorem j1:ev z (k,[])=k:=by unfold ev;rw[g2,JG]
theorem vb:ev z (h3 d p)=-1+(ev z d-ev z p):=by unfold h3;rw[jZ,g3,j1]
theorem vc:∀{z},cx (jX i) z=(z.getD i 0:Nat):=by induction i with
 |zero=>exactλ{z}=>by induction z with|nil=>rfl|cons x z=>show 1*(x:Int)+cx [] z=(x:Int);rw[g2,J_,JG]
 |succ i ih=>intro z;induction z with|nil=>rfl|cons x z=>show 0*(x:Int)+cx (jX i) z=(z.getD i 0:Nat);rw[ih,JH,JF]
def Ok(z:List Nat)(n:Cs)(P:Int->Prop):Prop:=∃j∈n,(∀c∈j.1,0<=ev z c)/\P (ev z j.2)
theorem dB(e:ev z m=aj)(h:P aj):Ok z [([],m)] P:=⟨_,Eu,λd h=>(Ez h).elim,e▸h⟩
theorem hA(h:([c],m)∈n)(hc:0<=ev z c)(hl:P<|ev z m):Ok z n P:=⟨_,h,λG hd=>by rw[ta.mp hd];exact hc,hl⟩
theorem nm(ha:Ok z N P)(hb:Ok z B C)(h:∀d p,P (ev z d)->C (ev z p)->Ok z (w d p) R):Ok z (gC w N B) R:=by refine a4 ha λd i Q b=>?_;refine a4 hb λp E a e=>?_;refine a4 (h _ _ b e) λc j l f=>?_;exact⟨(c.1++(d.1++p.1),c.2),Mj.mpr ⟨d,i,Mj.mpr ⟨p,E,EO.mpr ⟨c,j,rfl⟩⟩⟩,λG hd=>(E1.mp hd).elim (l G) λhd=>(E1.mp hd).elim (Q G)<|a G,f⟩
noncomputable def val(M:Bool)(j:Nat×Int):Int:=bif M then j.2 else(j.1:Int)
theorem d0(J:ev z d<=ev z p->P (ev z m))(L:ev z p<=ev z d->P (ev z l')):Ok z [([cN p d],m),([cN d p],l')] P:=by
 refine(IF (ev z d)<|ev z p).elim (λh=>?_) λh=>?_;.exact hA Eu (by rw[g3];exact ID.mpr h)<|J h
 .exact hA (Ev _ Eu) (by rw[g3];exact ID.mpr h)<|L h
theorem nn{z:List Nat}{x u:Nat}{d p:Ln}(ha:ev z d=(x:Int))(hb:ev z p=(u:Int)):Ok z [([cN p d],p),([cN d p],d)] (·=((max x u:Nat):Int)):=d0 λh=>by rw[ha,hb]at h;rw[hb,Ia<|HP.mp h] λh=>by rw[ha,hb]at h;rw[ha,JB<|HP.mp h]
theorem vd(ha:ev z d=val (M&&D !=4) j)(hb:ev z p=val M q):Ok z (pN M d p D) (·=val M (pL j.1 q.1 D,pM j.1 j.2 q.2 D)):=by induction M with
 |true=>match D,ha with|0,ha=>exact dB jZ<|by rw[ha,hb];rfl|1,ha=>exact dB g3<|by rw[ha,hb];rfl|2,ha=>exact d0 (λh=>by rw[ha,hb]at h;rw[ha];exact(GU h).symm) λh=>by rw[ha,hb]at h;rw[hb];exact(GD h).symm|3,ha=>exact d0 (λh=>by rw[ha,hb]at h;rw[hb];exact(Gr h).symm) λh=>by rw[ha,hb]at h;rw[ha];exact(G8 h).symm|4,ha=>exact dB rfl ha|D+5,ha=>exact dB j0<|by rw[ha,IB,J_];rfl
 |false=>match D,ha with
  |0,ha=>exact dB jZ<|by rw[ha,hb];rfl|1,ha=>
   refine d0 (d:=p) (p:=d) (m:=cN d p) (l':=(0,[])) (λh=>?_) λh=>?_;.rw[ha,hb]at h;rw[g3,ha,hb];exact(Int.ofNat_sub<|HP.mp h).symm
   .rw[ha,hb]at h;rw[j1];exact(aY Int.ofNat<|Nat.sub_eq_zero_of_le<|HP.mp h).symm|2,ha=>exact d0 (λh=>by rw[ha,hb]at h;rw[ha];exact aY Int.ofNat (IZ<|HP.mp h).symm) λh=>by rw[ha,hb]at h;rw[hb];exact aY Int.ofNat (IG<|HP.mp h).symm|3,ha=>exact nn ha hb|4,ha=>exact nn ha hb|D+5,ha=>exact nn ha hb
theorem lA:∀{M},Ok z (tr M e) (·=val M (dT z e)):=by induction e with
 |«at»i=>intro M;refine dB (aj:=val M<|dT z<|.at i) ?_ rfl;induction M with|true=>exact j1|false=>show 0+cx (jX i) z=_;rw[vc,JF];rfl
 |k l=>exactλ{M}=>dB j1<|by induction M<;>rfl|sc m c d ih=>
  intro M;refine a4 (ih (M:=M)) λj y h e=>?_;refine⟨_,EO.mpr ⟨j,y,rfl⟩,h,?_⟩;show ev z (fK (c:Int) j.2)=_;rw[j0,e];induction M<;>induction m;.exact(G3 _ _).trans (Kz _ _).symm
  .exact(Kz _ _).symm
  .exact G3 _ _
  .rfl|bin D d p a b=>exactλ{M}=>nm a b λG G J L=>vd J L
theorem lB(h:ev z d<ev z p):0<=ev z (h3 p d):=by rw[vb,KA];exact ID.mpr<|Int.sub_pos.mpr h
def yes(r:Bool)(j:Prop):Prop:=bif r then j else¬j
theorem pR(h:yes r<|ev z d<=ev z p):Ok z (ni r d p) λc=>True:=by induction r with|true=>exact hA Eu (by show 0<=ev z (cN p d);rw[g3];exact ID.mpr h) trivial|false=>exact hA Eu (lB<|KC.mp h) trivial
theorem pS(h:yes r<|ev z d<ev z p):Ok z (nj r d p) λc=>True:=by induction r with|true=>exact hA Eu (lB h) trivial|false=>exact hA Eu (by show 0<=ev z (cN d p);rw[g3];exact ID.mpr<|FC.mp h) trivial
theorem pT(h:yes r<|ev z d=ev z p):Ok z (nk r d p) λG=>True:=by induction r with|true=>have e:ev z d=ev z p:=h;exact⟨_,Eu,λc hc=>(EG.mp hc).elim (λk=>by rw[k,g3,e,Int.sub_self];exact Gv _) λhc=>by rw[ta.mp hc,g3,e,Int.sub_self];exact Gv _,trivial⟩|false=>exact(Int.lt_or_gt_of_ne h).elim (λh=>hA (Ev _ Eu) (lB h) trivial) λh=>hA Eu (lB h) trivial
theorem np(h:j↔q):yes r j->yes r q:=by induction r with|true=>exact h.mp|false=>exactλk x=>k<|h.mpr x
theorem vf(h:yes r<|rl (dT z d) (dT z p) D):Ok z (pO r d p D) λc=>True:=by have Q:∀{w:Ln->Ln->Cs}{P:Int->Int->Prop},(∀{d p:Ln},yes r (P (ev z d)<|ev z p)->Ok z (w d p) λc=>True)->yes r (P (dT z d).1 (dT z p).1)->Ok z (gC w (tr EF d)<|tr EF p) λc=>True:=λ{w P}g h=>nm lA lA λaj v J L=>g (by rw[J,L];exact h);have Z:∀{w:Ln->Ln->Cs}{P:Int->Int->Prop},(∀{d p:Ln},yes r (P (ev z d)<|ev z p)->Ok z (w d p) λc=>True)->yes r (P (dT z d).2 (dT z p).2)->Ok z (gC w (tr Do d)<|tr Do p) λc=>True:=λ{w P}g h=>nm lA lA λaj v J L=>g (by rw[J,L];exact h);match D,h with|0,h=>exact Q (P:=(·<=·)) pR<|np HP.symm h|1,h=>exact Q (P:=(·<·)) pS<|np Int.ofNat_lt.symm h|2,h=>exact Q (P:=(·=·)) pT<|np Gl.symm h|3,h=>exact Z (P:=(·<=·)) pR h|4,h=>exact Z (P:=(·<·)) pS h|5,h=>exact Z (P:=(·=·)) pT h|D+6,h=>induction r with|true=>exact HQ h|false=>exact dB j1 trivial
theorem vg:cx c z=c.headD 0*(z.headD 0:Nat)+cx c.tail z.tail:=by induction c with|nil=>rw[g2];show _=0*_+cx [] _;rw[g2,JH];rfl|cons c cs=>induction z with|nil=>show(0:Int)=c*0+cx cs [];rw[Ky];induction cs<;>rfl|cons x z=>rfl
theorem pU:ev z m=hd m*(z.headD 0:Nat)+ev z.tail (tl m):=by unfold ev;rw[vg];show m.1+(hd m*_+cx m.2.tail _)=_+(m.1+cx m.2.tail _);ac_rfl
theorem vh:∀{z},(∀x∈c,x%g=0)->cx c z=g*cx (c.map (·/g)) z:=by induction c with|nil=>exactλ{z}_=>by rw[IE,g2,Ky]|cons c cs ih=>intro z h;induction z with|nil=>exact(Ky g).symm|cons x z=>show c*x+cx cs z=g*(c/g*x+cx (cs.map (·/g)) z);rw[ih λx E=>h x<|Ev _ E,MT,<-Int.mul_assoc,Int.mul_ediv_cancel'<|Int.dvd_of_emod_eq_zero<|h c Eu]
theorem pV(h:0<=ev z m):0<=ev z (nl g m):=by unfold nl;cases e:decide (0<g)&&m.2.all λc=>c%g==0 with|false=>exact h|true=>refine aN (GY.mp e) λJ L=>?_;have hg:=of_decide_eq_true J;unfold ev at h;rw[vh λx E=>eq_of_beq<|FE.mp L x E]at h;show 0<=m.1/g+_;rw[<-Int.add_mul_ediv_left _ _<|JI hg];exact Int.ediv_nonneg h<|Fy hg
abbrev Al(z:List Nat)(n:List Ln):Prop:=∀c∈n,0<=ev z c
theorem nq(d:Al z N)(p:Al z B):Al z<|N++B:=λc h=>(E1.mp h).elim (d c)<|p c
theorem nr{z:List Nat}{n:List Ln}{j:Ln->Bool}{w:Ln->Ln}(h:∀c∈n,j c=Do->0<=ev z (w c)):Al z<|(n.filter j).map w:=λG hd=>(EO.mp hd).elim λc hc=>hc.2▸h c (Hv.mp hc.1).1 (Hv.mp hc.1).2
theorem vi(hp:hd j≠0)(hq:hd q≠0):hd (hy (fK x j)<|fK u q)=x*hd j+u*hd q:=by obtain⟨pk,f⟩:=j;obtain⟨qk,a⟩:=q;induction f with|nil=>exact aJ rfl hp|cons x f=>induction a with|nil=>exact aJ rfl hq|cons u a=>rfl
theorem vj(hp:0<=ev z j)(hq:0<=ev z q)(e1:0<hd j)(e2:hd q<0):0<=ev z.tail (tl<|hy (fK (-hd q) j)<|fK (hd j) q):=by have r:=Int.add_nonneg (Nb (Int.neg_nonneg_of_nonpos<|Fy e2) hp)<|Nb (Fy e1) hq;rw[<-j0,<-j0,<-jZ,pU,vi (JI e1)<|Oc e2,IB,G3<|hd j,Int.add_left_neg,JH,JF]at r;exact r
theorem vk{n:List Ln}(h:Al z n):Al z.tail<|pP n:=by
 have k:∀c∈n,0<=hd c*(z.headD 0:Nat)+ev z.tail (tl c):=λc hc=>pU▸h c hc;refine nq (nr λc hc e=>?_)<|nq (nr λc hc e=>?_) λG w=>?_;.have:=k c hc;rw[eq_of_beq e,JH,JF]at this;exact this
 .have J:=KD (J4 (Fy<|of_decide_eq_true e)<|Gh<|z.headD 0)<|ev z.tail<|tl c;rw[JF]at J;exact EC (k c hc) J
 .refine(Mj.mp w).elim λj hp=>?_;exact nr (λq hq e2=>pV<|vj (h j (Hv.mp hp.1).1) (h q hq) (of_decide_eq_true (Hv.mp hp.1).2)<|of_decide_eq_true e2) G hp.2
theorem vl:∀{z},(∀x∈c,x<=0)->cx c z<=0:=by induction c with|nil=>exactλ{z}_=>by rw[g2];exact Gv _|cons c cs ih=>intro z h;induction z with|nil=>exact Gv _|cons x z=>exact Ji (J4 (h c Eu)<|Gh x)<|ih λx E=>h x<|Ev _ E
theorem nt:∀{n}{z},jY l n=Do->Al z n->False:=by induction l with|zero=>exactλh=>EX h|succ l ih=>
  intro n z h k;refine(N8.mp h).elim (λh=>?_) λh=>?_;.refine aA (Km.mp h) λm hl e=>?_;refine aN (GY.mp e) λe1 e2=>?_;exact aJ (k m hl)<|KC.mpr<|E7 (Int.add_le_add_left (vl λx E=>of_decide_eq_true<|FE.mp e2 x E) _)<|by rw[JG];exact of_decide_eq_true e1
  .exact ih h<|vk k
abbrev Hs(z:List Nat)(t:List<|Bool×F):Prop:=∀j∈t,yes j.1<|dn z j.2
theorem eg(h:yes d.1<|dn z d.2):Hs z [d]:=λq hq=>ta.mp hq▸h
theorem de(h:yes d.1<|dn z d.2)(k:yes p.1<|dn z p.2):Hs z [d,p]:=λq hq=>(EG.mp hq).elim (λe=>e▸h)<|eg k q
theorem vm(h:yes r<|cn (dn z j) (dn z q) D):∃m∈pQ r j q D,Hs z m:=by have N:∀{m}{t},Hs z m->∃y∈m::t,Hs z y:=λg=>⟨_,Eu,g⟩;have B:∀{m y},Hs z m->∃x∈[y,m],Hs z x:=λg=>⟨_,Ev _ Eu,g⟩;match D,h with
 |0,h=>induction r with|true=>exact N<|de h.1 h.2|false=>exact(JJ<|dn z j).elim (λx=>B<|eg λu=>h ⟨x,u⟩) λx=>N<|eg x
 |1,h=>induction r with|true=>exact h.elim (λx=>N<|eg x) λx=>B<|eg x|false=>exact N<|de (λx=>h<|.inl x) λx=>h<|.inr x
 |2,h=>induction r with|true=>exact(JJ<|dn z j).elim (λx=>B<|eg<|h x) λx=>N<|eg x|false=>exact N<|de (λu=>h λd=>u)<|JC λx=>h λu=>aJ u x
 |D+3,h=>induction r with|true=>exact N<|eg h|false=>exact N<|eg<|JC h
theorem vn:∀{n}{t},ref l n t=Do->Al z n->Hs z t->False:=by induction l with|zero=>exactλh k e=>nt h k|succ l ih=>intro n t h k g;induction t with|nil=>exact nt h k|cons w t=>have g0:=g _ Eu;have gt:Hs z t:=λq hq=>g q<|Ev _ hq;obtain⟨r,w⟩:=w;induction w with|rel D d p=>refine(vf g0).elim λj y=>?_;have k':Al z<|j.1.map ly++n:=nq (λc hc=>(EO.mp hc).elim λG hd=>hd.2▸pV (y.2.1 G hd.1)) k;exact(N8.mp<|FE.mp h j y.1).elim (λh=>nt (GY.mp h).2 k') λh=>ih h k' gt|con D j q=>exact(vm g0).elim λm hl=>ih (FE.mp h m hl.1) k λq hq=>(E1.mp hq).elim (hl.2 q)<|gt q
theorem zz(z:List Nat)(w:F)(h:ref 99 [] [(EF,w)]=Do):dn z w:=JC λx=>vn h (λd h=>(Ez h).elim) λj hp=>by rw[ta.mp hp];exact x
noncomputable def eh(f:List aD):aD:=f.headD<|.k 0
noncomputable def fh(fs:List F):F:=fs.headD<|.rel 6 (.k 0)<|.k 0
noncomputable def vo:List aD->List aD|d::.k c::f=>.sc Do c d::f|f=>f
noncomputable def vp:List aD->List aD|.k c::d::f=>.sc EF c d::f|f=>f
noncomputable def b3:Nat->Nat->List aD->List F->F|0,_,_,fs=>fh fs|l+1,c,f,fs=>bif c==0 then fh fs else bif Ox (c%32) 8 then b3 l (c/32) (.at (c%32)::f) fs else bif c%32==8 then b3 l (c/1024) (.at (c/32%32)::f) fs else bif c%32==9 then b3 l (c/1024) (.k (c/32%32)::f) fs else bif c%32==10 then b3 l (c/32768) (.k (c/32%1024)::f) fs else bif c%32==11 then b3 l (c/1024/32^(c/32%32)) (.k (c/1024%32^(c/32%32))::f) fs else bif c%32==12 then b3 l (c/32) (vo f) fs else bif c%32==13 then b3 l (c/32) (vp f) fs else bif Ox (c%32) 18 then b3 l (c/32) (.bin (c%32-14) (eh f.tail) (eh f)::f.tail.tail) fs else bif Ox (c%32) 20 then b3 l (c/32) (.bin (c%32-14) (eh f) (eh f)::f.tail) fs else bif Ox (c%32) 26 then b3 l (c/32) f.tail.tail (.rel (c%32-20) (eh f.tail) (eh f)::fs)else bif c%32==26 then b3 l (c/32) f (.rel 6 (.k 0) (.k 0)::fs)else bif Ox (c%32) 30 then b3 l (c/32) f (.con (c%32-27) (fh fs.tail) (fh fs)::fs.tail.tail)else b3 l (c/32) f<|.con 3 (fh fs) (fh fs)::fs.tail
end Mine.Internal.ZZ
open Mine.Internal.ZZ in
theorem Mine.Internal.zc(c:Nat)(z:List Nat)(h:Do=ref 99 [] [(EF,b3 999 c [] [])]):dn z<|b3 999 c [] []:=zz z _ h.symm
open Mine.Internal.ZZ in
theorem Mine.Internal.aB{d:Nat}(l:Nat)(h:Do=ref 99 [] [(EF,b3 999 l [] [])]):dn [d]<|b3 999 l [] []:=zc l _ h
open Mine.Internal.ZZ in
theorem Mine.Internal.aE{d p:Nat}(l:Nat)(h:Do=ref 99 [] [(EF,b3 999 l [] [])]):dn [d,p]<|b3 999 l [] []:=zc l _ h
open Mine.Internal.ZZ in
theorem Mine.Internal.aT{d p c:Nat}(l:Nat)(h:Do=ref 99 [] [(EF,b3 999 l [] [])]):dn [d,p,c]<|b3 999 l [] []:=zc l _ h
open Mine.Internal.ZZ in
theorem Mine.Internal.cy{d p c G:Nat}(l:Nat)(h:Do=ref 99 [] [(EF,b3 999 l [] [])]):dn [d,p,c,G]<|b3 999 l [] []:=zc l _ h
open Mine.Internal.ZZ in
theorem Mine.Internal.gD{d p c G e:Nat}(l:Nat)(h:Do=ref 99 [] [(EF,b3 999 l [] [])]):dn [d,p,c,G,e]<|b3 999 l [] []:=zc l _ h
set_option genCtorIdx true
set_option genInjectivity true
namespace Mine.Internal
set_option bootstrap.genMatcherCode false
inductive V where|none|bool(b:Bool)|int(i:Int)|str(s:List Nat)|tup(xs:List V)|lst(xs:List V)|br(es:List<|V×V)|ref(a:Nat)
section
noncomputable instance:DecidableEq V:=λd p=>F_<|d=p
inductive c2 where|list(xs:List V)|dict(es:List<|V×V)|inst(c:Nat)(dx:Nat)(fs:List<|Nat×V)|b9
noncomputable abbrev Hp:=Nat->Option c2
noncomputable abbrev aL:=Nat->Option V
noncomputable def Hp.set(H:Hp)(d:Nat)(D:c2):Hp:=λx=>if x=d then j' D else H x
noncomputable def Hp.del(H:Hp)(d:Nat):Hp:=λx=>if x=d then kf else H x
noncomputable def aL.set(m:aL)(i:Nat)(v:V):aL:=λx=>if x=i then j' v else m x
noncomputable def aL.del(m:aL)(i:Nat):aL:=λx=>if x=i then kf else m x
inductive nu where|add|sub|mul|mod|pow
inductive j2 where|eq|ne|lt|le|gt|ge|isIn|notIn|isA|isNot
set_option genCtorIdx false
set_option genInjectivity false in
mutual
inductive an where|k(c:V)|v(i:Nat)|g(i:Nat)(n:Int)|call(f:Nat)(as:XL)|new(c:Nat)(as:XL)|ai(o:an)(m:Nat)(as:XL)|attr(o:an)(n:Nat)|len(x:an)|sort(x:an)|sset(x:an)|cg(x:an)|cj(box:Bool)(x:an)|mm(mx:Bool)(as:XL)|sum(x:an)|toInt(x:an)|toStr(x:an)|append(o e:an)|extend(o e:an)|pop(o:an)|d9(o k:an)|dget(o k:an)|dm(o k d:an)|dg(o k d:an)|isspace(o:an)|sub(o i:an)|d7(o:an)(n:Nat)|fz(o x:an)|fj(o:an)|bin(op:nu)(a b:an)|neg(a:an)|ite(t:T)(a b:an)|not(a:an)|bo(isAnd:Bool)(as:XL)|cmp(op:j2)(a b:an)|tup(as:XL)|lst(box:Bool)(as:XL)|bf|comp(e:an)(t:Tg)(it:It)(c:T)|bx(e:an)(t1:Tg)(it1:It)(t2:Tg)(it2:It)|b8(box:Bool)(ke ve:an)(t:Tg)(it:It)|au(ke ve:an)(t:Tg)(i:Nat)inductive T where|c0|x(e:an)|not(t:T)|bo(isAnd:Bool)(ts:TL)|cmp(op:j2)(a b:an)|dz(o1 o2:j2)(a b c:an)inductive TL where|nil|cons(t:T)(r:TL)inductive It where|pl(x:an)|range(x:an)|enum(x:an)|items(x:an)|values(x:an)inductive XL where|nil|cons(e:an)(r:XL)inductive Tg where|v(i:Nat)|sub(o i:an)|attr(o:an)(n:Nat)|t(l:e_)inductive e_ where|nil|cons(t:Tg)(r:e_)end
set_option genInjectivity false in
mutual
inductive XS where|asg(t:Tg)(e:an)|ex(e:an)|ret(e:an)|be(c:T)(a b:XB)|fu(c:T)(b:XB)|for(t:Tg)(it:It)(b:XB)|raise|f9(i:Nat)inductive XB where|nil|cons(s:XS)(r:XB)end
noncomputable def XL.of(m:List an):XL:=m.foldr .cons .nil
noncomputable def TL.of(m:List T):TL:=m.foldr .cons .nil
noncomputable def e_.of(m:List Tg):e_:=m.foldr .cons .nil
noncomputable def XB.of(m:List XS):XB:=m.foldr .cons .nil
def av(D:Option α)(k:α->Prop):Prop:=match D with|some x=>k x|kf=>False
@[simp]theorem c6(x:α)(k:α->Prop):av (j' x) k=k x:=rfl
@[simp]theorem Ep(k:α->Prop):av kf k=False:=rfl
theorem dK{α:Type}{D:Option α}{k:α->Prop}{P:Prop}(h:av D k)(w:∀x,D=j' x->k x->P):P:=by induction D with|none=>exact HQ h|some x=>exact w x rfl h
theorem nv{α:Type}{c:Prop}{_:Decidable c}{D:Option α}{v:α}(h:(if c then D else kf)=j' v):c/\D=j' v:=by
 by_cases e:c;.exact⟨e,(aF e).symm.trans h⟩
 .exact nomatch(aC e).symm.trans h
theorem aP{α:Type}{v:α}{P:Prop}(h:(kf:Option α)=j' v):P:=by cases h
theorem pW{α β:Type}[BEq α][LawfulBEq α]{m:List<|α×β}{d:α}{p:β}(h:m.lookup d=j' p):(d,p)∈m:=by refine bn (List.lookup_eq_some_iff.mp h) λl1 l2 e c=>e▸Fz _ (.head _)
noncomputable def aR:Nat:=1000000
noncomputable def dC:Int:=1000000000000
noncomputable def bT(H:Hp):V->Option (List V)
 |.tup z=>j' z|.lst z=>j' z|.ref d=>match H d with|some<|.list z=>j' z|_=>kf
 |_=>kf
theorem j3(h:H d=j' (.list z)):bT H (.ref d)=j' z:=by show(match H d with|some<|.list z=>j' z|_=>kf)=_;rw[h]
noncomputable def bP(H:Hp):V->Option (List V)
 |.lst z=>j' z|.ref d=>match H d with|some<|.list z=>j' z|_=>kf
 |_=>kf
noncomputable def cU(H:Hp):V->Option (List<|V×V)
 |.br f=>j' f|.ref d=>match H d with|some<|.dict f=>j' f|_=>kf
 |_=>kf
theorem gE(h:H d=j' (.dict z)):cU H (.ref d)=j' z:=by show(match H d with|some<|.dict z=>j' z|_=>kf)=_;rw[h]
noncomputable def bN:V->Option Int|.int i=>j' i|_=>kf
noncomputable def cF:V->Option Nat|.ref d=>j' d|_=>kf
noncomputable def h6:V->Option (List Nat)|.str r=>j' r|_=>kf
noncomputable def ca:List V->Option (List Int)|[]=>j' []|.int i::o=>(ca o).map (i::·)|_=>kf
noncomputable def dget:List (V×V)->V->Option V|[],_=>kf|(k,v)::o,x=>if k=x then j' v else dget o x
noncomputable def bC:List (V×V)->V->V->List (V×V)|[],x,u=>[(x,u)]|(k,v)::o,x,u=>if k=x then(k,u)::o else(k,v)::bC o x u
noncomputable def cc:List (V×V)->V->List (V×V)|[],_=>[]|(k,v)::o,x=>if k=x then o else(k,v)::cc o x
noncomputable def c7:List (Nat×V)->Nat->Option V|[],_=>kf|(k,v)::o,x=>if k=x then j' v else c7 o x
noncomputable def dM:List (Nat×V)->Nat->V->List (Nat×V)|[],x,u=>[(x,u)]|(k,v)::o,x,u=>if k=x then(k,u)::o else(k,v)::dM o x u
inductive PureN:Nat->V->Prop|none(n:Nat):PureN n .none|int(n:Nat)(i:Int):PureN n<|.int i|str(n:Nat)(s:List Nat):(∀c∈s,c<128)->PureN n (.str s)|tup(n:Nat)(xs:List V):(∀x∈xs,PureN n x)->PureN (n+1) (.tup xs)|lst(n:Nat)(xs:List V):(∀x∈xs,PureN n x)->PureN (n+1) (.lst xs)
noncomputable abbrev bs(v:V):Prop:=PureN 9 v
inductive KeyIn:Nat->V->Prop|int(n:Nat)(i:Int):KeyIn n<|.int i|str(n:Nat)(s:List Nat):(∀c∈s,c<128)->KeyIn n (.str s)|tup(n:Nat)(xs:List V):(∀x∈xs,KeyIn n x)->KeyIn (n+1) (.tup xs)
def gF(k:V):Prop:=(∃z,k=.tup z)/\KeyIn 6 k
def g4(k:V):Prop:=∃i,k=.int i
def bD(f:List<|V×V)(k:V):Prop:=(g4 k/\∀e∈f,g4 e.1)\/gF k/\∀e∈f,gF e.1
noncomputable def eP:V->Option Bool|.bool p=>j' p|_=>kf
noncomputable def pX:V->Option (List V)|.tup z=>j' z|_=>kf
def pY(H:Hp)(x u:V)(C:V->Prop):Prop:=match x with|.int i=>av (bN u) λa=>C<|.int<|i+a|.str r=>av (h6 u) λt=>(r++t).length<=aR/\C (.str<|r++t)|.tup r=>av (pX u) λt=>(r++t).length<=aR/\C (.tup<|r++t)|x=>av (bP H x) λr=>av (bP H u) λt=>(r++t).length<=aR/\C (.lst<|r++t)
def fd(H:Hp)(A:nu)(x u:V)(C:V->Prop):Prop:=match A with|.add=>pY H x u C|.sub=>av (bN x) λi=>av (bN u) λa=>C<|.int<|i-a|.mul=>av (bN x) λi=>av (bN u) λa=>(-dC<i/\i<dC/\-dC<a/\a<dC)/\C (.int<|i*a)|.mod=>av (bN x) λi=>av (bN u) λa=>0<a/\C (.int<|i%a)|.pow=>av (bN x) λi=>av (bN u) λa=>a=2/\(-dC<i/\i<dC)/\C (.int<|i*i)
noncomputable def i':List Nat->List Nat->Bool|[],_=>Do|_::_,[]=>EF|d::o,p::q=>d==p&&i' o q
noncomputable def d1(r:List Nat):List Nat->Bool|[]=>i' r []|p::q=>i' r (p::q)||d1 r q
def nw(H:Hp)(x c:V)(C:Bool->Prop):Prop:=match c,x with
 |.str t,.str r=>C<|d1 r t|.tup z,x=>bs x/\(∀u∈z,bs u)/\∀p,(p=Do↔x∈z)->C p|.lst z,x=>bs x/\(∀u∈z,bs u)/\∀p,(p=Do↔x∈z)->C p|.br f,x=>bD f x/\C (dget f x).isSome|.ref d,x=>av (H d) λD=>match D with|.list z=>bs x/\(∀u∈z,bs u)/\∀p,(p=Do↔x∈z)->C p|.dict f=>bD f x/\C (dget f x).isSome|_=>False
 |_,_=>False
def bK(H:Hp)(A:j2)(d p:V)(C:Bool->Prop):Prop:=match A with|.eq=>bs d/\bs p/\∀c,(c=Do↔d=p)->C c|.ne=>bs d/\bs p/\∀c,(c=Do↔d≠p)->C c|.lt=>av (bN d) λi=>av (bN p) λa=>C<|decide<|i<a|.le=>av (bN d) λi=>av (bN p) λa=>C<|decide<|i<=a|.gt=>av (bN d) λi=>av (bN p) λa=>C<|decide<|a<i|.ge=>av (bN d) λi=>av (bN p) λa=>C<|decide<|a<=i|.isIn=>nw H d p C|.notIn=>nw H d p λc=>C !c|.isA=>p=.none/\∀c,(c=Do↔d=.none)->C c|.isNot=>p=.none/\∀c,(c=Do↔d≠.none)->C c
noncomputable def d2(z:List V)(i:Int):Option V:=@ite _ (0<=i/\i<1000000) (F_ _) z[i.toNat]? kf
def fL(H:Hp)(D i:V)(C:V->Prop):Prop:=match D with
 |.str r=>av (bN i) λl=>av (@ite _ (0<=l/\l<1000000) (F_ _) r[l.toNat]? kf) λc=>C<|.str [c]|.tup z=>av (bN i) λl=>av (d2 z l) C|.lst z=>av (bN i) λl=>av (d2 z l) C|.br f=>bD f i/\av (dget f i) C|.ref d=>av (H d) λD=>match D with|.list z=>av (bN i) λl=>av (d2 z l) C|.dict f=>bD f i/\av (dget f i) C|_=>False
 |_=>False
def hC(z ys:List Int):Prop:=ys.Perm z/\ys.Pairwise (·<=·)
noncomputable def pZ:List<|List Nat×Int:=[([48],0),([49],1),([52],4),([57],9),([45,51],-3)]
noncomputable def gG(r:List Nat):Option Int:=pZ.lookup r
noncomputable def j4(c:Nat):Bool:=c==32||decide (9<=c)&&decide (c<=13)||decide (28<=c)&&decide (c<=31)
noncomputable def h5:V->Bool|.int _=>Do|_=>EF
noncomputable def j5:V->Option (List V)|.tup z=>j' z|.lst z=>j' z|.br f=>if f.all λe=>h5 e.1 then j'<|f.map (·.1)else kf|.str r=>if r.all λc=>decide (c<128)then j'<|r.map λc=>.str [c]else kf|_=>kf
noncomputable def eQ:Nat->List V:=λl=>(E3 l).map λ(i:Nat)=>V.int i
noncomputable def eR:Nat->List V->List V|_,[]=>[]|l,x::o=>.tup [.int l,x]::eR (l+1) o
noncomputable abbrev CW:=Nat->List V->Hp->(V->Hp->Prop)->Prop
structure lC where
 init:Nat->Option Nat
 ai:Nat->Nat->Option Nat
noncomputable def cV(body:V->Hp->(V->Hp->Prop)->(Hp->Prop)->Prop):List V->List V->Hp->(List V->Hp->Prop)->Prop|[],ao,H,C=>C ao H|x::o,ao,H,C=>body x H (λA H'=>cV body o (ao++[A]) H' C) λH'=>cV body o ao H' C
noncomputable def ei(body:V->Hp->(V->V->Hp->Prop)->Prop):List V->List (V×V)->Hp->(List (V×V)->Hp->Prop)->Prop|[],ao,H,C=>C ao H|x::o,ao,H,C=>body x H λk A H'=>bD ao k/\ao.length<=aR/\ei body o (bC ao k A) H' C
noncomputable def ja(body:V->List V->Hp->(List V->Hp->Prop)->Prop):List V->List V->Hp->(List V->Hp->Prop)->Prop|[],ao,H,C=>C ao H|x::o,ao,H,C=>body x ao H λn H'=>ja body o n H' C
mutual
noncomputable def Tg.vars:Tg->List Nat|.v i=>[i]|.sub _ _=>[]|.attr _ _=>[]|.t m=>m.vars
noncomputable def e_.vars:e_->List Nat|.nil=>[]|.cons t o=>t.vars++o.vars
end
noncomputable def e_.len:e_->Nat|.nil=>0|.cons _ o=>o.len+1
noncomputable def aL.bh(m:aL):List Nat->aL|[]=>m|i::o=>(m.del i).bh o
def eD(o:Bool)(H:Hp)(Y:List V)(C:V->Prop):Prop:=match Y with|[x]=>av (bP H x) λz=>av (ca z) λis=>is≠[]/\∀y,y∈is->(∀i∈is,if o then i<=y else y<=i)->C (.int y)|[x,u]=>av (bN x) λi=>av (bN u) λa=>C<|.int<|if o then(if i<a then a else i)else if a<i then a else i|_=>False
def h4(D i v:V)(H:Hp)(C:Hp->Prop):Prop:=av (cF D) λd=>av (H d) λob=>match ob with|.list z=>av (bN i) λl=>0<=l/\l.toNat<z.length/\l<1000000/\C (H.set d<|.list<|z.set l.toNat v)|.dict f=>bD f i/\f.length<=aR/\C (H.set d<|.dict<|bC f i v)|_=>False
def ny(D:V)(l:Nat)(v:V)(H:Hp)(C:Hp->Prop):Prop:=av (cF D) λd=>av (H d) λob=>match ob with|.inst c dx fs=>fs.length<=20/\C (H.set d<|.inst c dx<|dM fs l v)|_=>False
section
variable(tab:lC)(ab:CW)
mutual
noncomputable def am:an->aL->Hp->(V->Hp->Prop)->Prop
 |.k c,_,H,C=>C c H|.v i,m,H,C=>av (m i) λv=>C v H|.g _ l,_,H,C=>C (.int l) H|.call w as,m,H,C=>cW as m H λY H=>ab w Y H C|.new c as,m,H,C=>cW as m H λY H=>av (tab.init c) λw=>∀d dx,H d=kf->H dx=kf->d≠dx->ab w (.ref d::Y) ((H.set dx .b9).set d<|.inst c dx []) λv H=>v=.none/\C (.ref d) H|.ai D y as,m,H,C=>am D m H λov H=>av (cF ov) λd=>av (H d) λob=>match ob with|.inst c _ fs=>c7 fs y=kf/\av (tab.ai c y) λw=>cW as m H λY H=>ab w (.ref d::Y) H C|_=>False
 |.attr D l,m,H,C=>am D m H λov H=>av (cF ov) λd=>av (H d) λob=>match ob with|.inst _ _ fs=>av (c7 fs l) λv=>C v H|_=>False
 |.len x,m,H,C=>am x m H λv H=>match v with|.str r=>r.length<=aR/\C (.int r.length) H|v=>av (bT H v) λz=>z.length<=aR/\C (.int z.length) H
 |.sort x,m,H,C=>am x m H λv H=>av ((bP H v).or<|(cU H v).map λf=>f.map (·.1)) λz=>av (ca z) λis=>is.length<64/\∀js,hC is js->C (.lst<|js.map V.int) H|.sset x,m,H,C=>am x m H λv H=>av (bP H v) λz=>z.length<64/\((∃is,ca z=j' is/\∀js:List Int,js.Pairwise (·<·)->(∀a,a∈js↔a∈is)->C (.lst<|js.map V.int) H)\/(∀x∈z,∃(r:List Nat)(is:List Int),(∀c∈r,c<128)/\x=.tup (.str r::is.map V.int))/\∀ys,ys.Nodup->(∀u,u∈ys↔u∈z)->C (.lst ys) H)|.cg x,m,H,C=>am x m H λv H=>av (bT H v) λz=>z.length<=aR/\C (.tup z) H|.cj q x,m,H,C=>am x m H λv H=>av (bT H v) λz=>z.length<=aR/\if q then∀d,H d=kf->C (.ref d) (H.set d<|.list z)else C (.lst z) H|.mm o as,m,H,C=>cW as m H λY H=>eD o H Y λv=>C v H|.sum x,m,H,C=>am x m H λv H=>av (bP H v) λz=>av (ca z) λis=>is.length<=1000/\(∀i∈is,0<=i/\i<=1000000)/\C (.int is.sum) H|.toInt x,m,H,C=>am x m H λv H=>av (h6 v) λr=>av (gG r) λi=>C (.int i) H|.toStr x,m,H,C=>am x m H λv H=>av (bN v) λi=>0<=i/\i<10/\C (.str [48+i.toNat]) H|.append D e,m,H,C=>am D m H λov H=>av (cF ov) λd=>(∃z,H d=j' (.list z))/\am e m H λv H=>av (H d) λob=>match ob with|.list z=>z.length<aR/\C .none (H.set d<|.list<|z++[v])|_=>False
 |.extend D e,m,H,C=>am D m H λov H=>av (cF ov) λd=>(∃z,H d=j' (.list z))/\am e m H λv H=>av (bP H v) λys=>av (H d) λob=>match ob with|.list z=>z.length+ys.length<=aR/\C .none (H.set d<|.list<|z++ys)|_=>False
 |.pop D,m,H,C=>am D m H λov H=>av (cF ov) λd=>av (H d) λob=>match ob with|.list z=>∃ys u,z=ys++[u]/\ys.length<aR/\C u (H.set d<|.list ys)|_=>False
 |.d9 D ke,m,H,C=>am D m H λov H=>av (cF ov) λd=>(∃f,H d=j' (.dict f))/\am ke m H λkv H=>av (H d) λob=>match ob with|.dict f=>g4 kv/\bD f kv/\f.length<=aR/\av (dget f kv) λv=>C v<|H.set d<|.dict<|cc f kv|_=>False
 |.dget D ke,m,H,C=>am D m H λov H=>(∃f,cU H ov=j' f)/\am ke m H λkv H=>av (cU H ov) λf=>bD f kv/\C ((dget f kv).getD .none) H|.dm D ke J,m,H,C=>am D m H λov H=>(∃f,cU H ov=j' f)/\am ke m H λkv H=>am J m H λj H=>av (cU H ov) λf=>bD f kv/\C ((dget f kv).getD j) H|.dg D ke J,m,H,C=>am D m H λov H=>av (cF ov) λd=>(∃f,H d=j' (.dict f))/\am ke m H λkv H=>am J m H λj H=>av (H d) λob=>match ob with|.dict f=>bD f kv/\f.length<=aR/\C ((dget f kv).getD j) (H.set d<|.dict<|if(dget f kv).isSome then f else f++[(kv,j)])|_=>False
 |.isspace D,m,H,C=>am D m H λov H=>∃c,ov=.str [c]/\c<128/\C (.bool<|j4 c) H|.sub D i,m,H,C=>am D m H λov H=>am i m H λQ H=>fL H ov Q λv=>C v H|.d7 D l,m,H,C=>am D m H λov H=>match ov with|.str r=>l<=r.length/\r.length<=aR/\C (.str<|r.drop l) H|.tup z=>1<=l/\l<=z.length/\z.length<=aR/\C (.tup<|z.drop l) H|_=>False
 |.fz D x,m,H,C=>am D m H λov H=>am x m H λK H=>av (bN K) λl=>0<=l/\l<1000000/\(match ov with|.str r=>l.toNat<=r.length/\r.length<=aR/\C (.str<|r.take l.toNat) H|.lst z=>z.length<=aR/\C (.lst<|z.take l.toNat) H|_=>False)|.fj D,m,H,C=>am D m H λov H=>match ov with|.tup z=>∃d p,z=[d,p]/\C (.tup [p,d]) H|.lst z=>z.length<=aR/\C (.lst z.reverse) H|_=>False
 |.bin A d p,m,H,C=>am d m H λs H=>am p m H λE H=>fd H A s E λv=>C v H|.neg d,m,H,C=>am d m H λs H=>av (bN s) λi=>C (.int<|-i) H|.ite t d p,m,H,C=>bS t m H λc H=>if c then am d m H C else am p m H C|.not d,m,H,C=>am d m H λs H=>av (eP s) λc=>C (.bool !c) H|.bo b as,m,H,C=>eY b as m H λc H=>C (.bool c) H|.cmp A d p,m,H,C=>am d m H λs H=>am p m H λE H=>bK H A s E λc=>C (.bool c) H|.tup as,m,H,C=>cW as m H λY H=>C (.tup Y) H|.lst q as,m,H,C=>cW as m H λY H=>if q then∀d,H d=kf->C (.ref d) (H.set d<|.list Y)else C (.lst Y) H|.bf,_,H,C=>∀d,H d=kf->C (.ref d) (H.set d<|.dict [])|.comp e t it c,m,H,C=>cO it m H λz H=>z.length<=aR/\cV (λx H kY L=>bY t x (m.bh t.vars) H λl' H=>bS c l' H λp H=>if p then am e l' H kY else L H) z [] H λys H=>C (.lst ys) H|.bx e t1 I t2 M,m,H,C=>cO I m H λz H=>z.length<=1000/\ja (λx ao H k=>bY t1 x ((m.bh t1.vars).bh t2.vars) H λl' H=>cO M l' H λys H=>ys.length<=1000/\cV (λu H kY h=>bY t2 u l' H λN H=>am e N H kY) ys ao H k) z [] H λys H=>C (.lst ys) H|.b8 q ke ve t it,m,H,C=>cO it m H λz H=>z.length<=aR/\ei (λx H kk=>bY t x (m.bh t.vars) H λl' H=>am ke l' H λkv H=>am ve l' H λn H=>kk kv n H) z [] H λf H=>if q then∀d,H d=kf->C (.ref d) (H.set d<|.dict f)else C (.br f) H|.au ke ve t i,m,H,C=>av (m i) λv=>av (cF v) λd=>av (H d) λob=>match ob with|.list z=>ei (λx H kk=>bY t x (m.bh t.vars) H λl' H=>am ke l' H λkv H=>am ve l' H λn H=>kk kv n H) z [] (H.del d) λf H'=>∀G,H' G=kf->G≠d->C (.ref G) ((H'.set d<|.list z).set G<|.dict f)|_=>False
noncomputable def bS:T->aL->Hp->(Bool->Hp->Prop)->Prop|.c0,_,H,C=>C Do H|.x e,m,H,C=>am e m H λv H=>av (eP v) λc=>C c H|.not t,m,H,C=>bS t m H λc H=>C (!c) H|.bo b ts,m,H,C=>fM b ts m H C|.cmp A d p,m,H,C=>am d m H λs H=>am p m H λE H=>bK H A s E λc=>C c H|.dz o1 J d p c,m,H,C=>am d m H λs H=>am p m H λE H=>bK H o1 s E λo=>if o then am c m H λf H=>bK H J E f λr'=>C r' H else C EF H
noncomputable def fM(b:Bool):TL->aL->Hp->(Bool->Hp->Prop)->Prop|.nil,_,H,C=>C b H|.cons t o,m,H,C=>bS t m H λc H=>if c=b then fM b o m H C else C c H
noncomputable def eY(b:Bool):XL->aL->Hp->(Bool->Hp->Prop)->Prop|.nil,_,_,_=>False|.cons e .nil,m,H,C=>am e m H λv H=>av (eP v) λc=>C c H|.cons e<|.cons e' o,m,H,C=>am e m H λv H=>av (eP v) λc=>if c=b then eY b (.cons e' o) m H C else C c H
noncomputable def cO:It->aL->Hp->(List V->Hp->Prop)->Prop
 |.pl x,m,H,C=>am x m H λv H=>av (j5 v) λz=>C z H|.range x,m,H,C=>am x m H λv H=>av (bN v) λl=>0<=l/\l<1000000/\C (eQ l.toNat) H|.enum x,m,H,C=>am x m H λv H=>match v with|.lst z=>C (eR 0 z) H|_=>False
 |.items x,m,H,C=>am x m H λv H=>match v with|.br f=>C (f.map λe=>.tup [e.1,e.2]) H|_=>False
 |.values x,m,H,C=>am x m H λv H=>match v with|.br f=>C (f.map λe=>e.2) H|_=>False
noncomputable def cW:XL->aL->Hp->(List V->Hp->Prop)->Prop|.nil,_,H,C=>C [] H|.cons e o,m,H,C=>am e m H λv H=>cW o m H λY H=>C (v::Y) H
noncomputable def bY:Tg->V->aL->Hp->(aL->Hp->Prop)->Prop|.v i,x,m,H,C=>C (m.set i x) H|.sub D i,x,m,H,C=>am D m H λov H=>am i m H λQ H=>h4 ov Q x H λH=>C m H|.attr D l,x,m,H,C=>am D m H λov H=>ny ov l x H λH=>C m H|.t ts,x,m,H,C=>match x with|.tup z=>z.length=ts.len/\gh ts z m H C|.lst z=>z.length=ts.len/\gh ts z m H C|.ref d=>av (bT H<|.ref d) λz=>z.length=ts.len/\gh ts z m H C|_=>False
noncomputable def gh:e_->List V->aL->Hp->(aL->Hp->Prop)->Prop|.nil,z,m,H,C=>z=[]/\C m H|.cons t o,z,m,H,C=>match z with|[]=>False|x::z=>bY t x m H λm H=>gh o z m H C
end
inductive Fl where|nx|rt(v:V)
noncomputable def fN(body:aL->Hp->(Fl->aL->Hp->Prop)->Prop)(bind:V->aL->Hp->(aL->Hp->Prop)->Prop):List V->aL->Hp->(Fl->aL->Hp->Prop)->Prop|[],m,H,C=>C .nx m H|x::o,m,H,C=>bind x m H λm H=>body m H λw m H=>match w with|.nx=>fN body bind o m H C|.rt v=>C (.rt v) m H
mutual
noncomputable def ej:XS->aL->Hp->(Fl->aL->Hp->Prop)->Prop|.asg t e,m,H,C=>am tab ab e m H λv H=>bY tab ab t v m H λm H=>C .nx m H|.ex e,m,H,C=>am tab ab e m H λG H=>C .nx m H|.ret e,m,H,C=>am tab ab e m H λv H=>C (.rt v) m H|.be c d p,m,H,C=>bS tab ab c m H λo H=>if o then aV d m H C else aV p m H C|.fu c p,m,H,C=>∃I:Nat->aL->Hp->Prop,(∃l,I l m H)/\∀l m H,I l m H->bS tab ab c m H λo H=>if o then aV p m H λw m H=>match w with|.nx=>∃y,y<l/\I y m H|.rt v=>C (.rt v) m H else C .nx m H|.for t it p,m,H,C=>cO tab ab it m H λz H=>z.length<=aR/\fN (aV p) (bY tab ab t) z m H C|.raise,_,_,_=>False|.f9 i,m,H,C=>av (m i) λv=>av (cF v) λd=>av (H d) λD=>match D with|.list z=>C .nx (m.set i<|.lst z)<|H.del d|.dict f=>C .nx (m.set i<|.br f)<|H.del d|_=>False
noncomputable def aV:XB->aL->Hp->(Fl->aL->Hp->Prop)->Prop|.nil,m,H,C=>C .nx m H|.cons r o,m,H,C=>ej r m H λw m H=>match w with|.nx=>aV o m H C|.rt v=>C (.rt v) m H
end
end
structure Fn where
 params:List Nat
 body:XB
noncomputable def fo:List Nat->List V->aL|i::o,v::Y=>(fo o Y).set i v|_,_=>λp=>kf
noncomputable def nz(tab:lC)(fO:Nat->Option Fn):Nat->CW|0=>λd d d d=>False|G+1=>λw Y H C=>av (fO w) λfn=>fn.params.length=Y.length/\aV tab (nz tab fO G) fn.body (fo fn.params Y) H λfl d H=>match fl with|.nx=>C .none H|.rt v=>C v H
end
end Mine.Internal
set_option genInjectivity false
namespace Mine.Internal
noncomputable def bU:List String:=["op","digits","sign","self","n","values","number","one","other","most","far","low","high","value","trimmed","some","ends","found","a","b","left","right","heap","analysis","told","c","kept","find","joined","node","nodes_of","kids","kid","of_node","begun","row","classes","waiting","spot","reckoned","user","users","late","text","nodes","numbers","weights","depths","require","above","lots","merged","gone","bank","unions","edges","forest","known","take","size","make","look_at","term","add","put","part","join","reason","merge","members","tape","many","cells","deep","way","turn","home","is_new","at","each","_law_far","is_span","bound","held","terms","due","is_late","keeper","settle","lows","clashes","script","pair"]
noncomputable def nA:Fn:={params:=[0],body:=.of [.asg (.v 1)<|.ite (.cmp .eq (.fz (.v 0)<|.k<|.int 1)<|.k<|.str [45]) (.d7 (.v 0) 1)<|.v 0,.be (.bo EF<|.of [.not<|.dz .lt .le (.k<|.int 0) (.len<|.v 1)<|.k<|.int 1000,.cmp .ne (.comp (.v 2) (.v 2) (.pl<|.v 1)<|.cmp .notIn (.v 2)<|.k<|.str [48,49,50,51,52,53,54,55,56,57])<|.lst EF .nil]) (.of [.ret<|.k .none]) .nil,.ret<|.toInt<|.v 0]}
noncomputable def p5:Fn:={params:=[3,4],body:=.of [.asg (.attr (.v 3) 4)<|.v 4]}
noncomputable def jb:Fn:={params:=[3,0,5],body:=.of [.be (.cmp .eq (.len<|.v 5)<|.k<|.int 0) (.of [.asg (.v 6)<|.call 0<|.of [.v 0],.ret<|.ite (.cmp .isA (.v 6)<|.k .none) (.k .none)<|.bin .mod (.v 6)<|.attr (.v 3) 4]) .nil,.be (.bo EF<|.of [.cmp .isIn (.k .none)<|.v 5,.cmp .notIn (.tup<|.of [.v 0,.len<|.v 5])<|.tup<|.of [.tup<|.of [.k<|.str [97,100,100],.k<|.int 2],.tup<|.of [.k<|.str [109,117,108],.k<|.int 2],.tup<|.of [.k<|.str [110,101,103],.k<|.int 1]]]) (.of [.ret<|.k .none]) .nil,.be (.cmp .isIn (.k<|.str [99,108,97,115,104])<|.v 5) (.of [.ret<|.k<|.str [99,108,97,115,104]]) .nil,.be (.cmp .eq (.v 0)<|.k<|.str [110,101,103]) (.of [.ret<|.bin .mod (.neg<|.sub (.v 5)<|.k<|.int 0)<|.attr (.v 3) 4]) .nil,.ret<|.bin .mod (.ite (.cmp .eq (.v 0)<|.k<|.str [97,100,100]) (.bin .add (.sub (.v 5)<|.k<|.int 0)<|.sub (.v 5)<|.k<|.int 1)<|.bin .mul (.sub (.v 5)<|.k<|.int 0)<|.sub (.v 5)<|.k<|.int 1)<|.attr (.v 3) 4]}
noncomputable def p6:Fn:={params:=[3,7,8],body:=.of [.be (.bo EF<|.of [.cmp .isA (.v 7)<|.k .none,.cmp .eq (.v 7)<|.v 8]) (.of [.ret<|.v 8]) .nil,.ret<|.ite (.cmp .isA (.v 8)<|.k .none) (.v 7)<|.k<|.str [99,108,97,115,104]]}
noncomputable def p7:Fn:={params:=[3,9],body:=.of [.asg (.attr (.v 3) 9)<|.v 9,.asg (.attr (.v 3) 10)<|.bin .mul (.k<|.int 10)<|.bin .pow (.bin .add (.v 9)<|.k<|.int 1)<|.k<|.int 2]}
noncomputable def p8:Fn:={params:=[3,11,12],body:=.of [.be (.cmp .gt (.v 11)<|.v 12) (.of [.ret<|.k<|.str [99,108,97,115,104]]) .nil,.asg (.v 11)<|.ite (.cmp .lt (.v 11)<|.neg<|.attr (.v 3) 9) (.k .none)<|.mm EF<|.of [.v 11,.attr (.v 3) 9],.asg (.v 12)<|.ite (.cmp .gt (.v 12)<|.attr (.v 3) 9) (.k .none)<|.mm Do<|.of [.v 12,.neg<|.attr (.v 3) 9],.ret<|.ite (.bo Do<|.of [.cmp .isA (.v 11)<|.k .none,.cmp .isA (.v 12)<|.k .none]) (.k .none)<|.tup<|.of [.v 11,.v 12]]}
noncomputable def p9:Fn:={params:=[3,13],body:=.of [.asg (.t<|.of [.v 11,.v 12])<|.ite (.cmp .isA (.v 13)<|.k .none) (.tup<|.of [.k .none,.k .none])<|.v 13,.ret<|.tup<|.of [.ite (.cmp .isA (.v 11)<|.k .none) (.neg<|.attr (.v 3) 10)<|.v 11,.ite (.cmp .isA (.v 12)<|.k .none) (.attr (.v 3) 10)<|.v 12]]}
noncomputable def nB:Fn:={params:=[3,0,5],body:=.of [.be (.cmp .isIn (.k<|.str [99,108,97,115,104])<|.v 5) (.of [.ret<|.k<|.str [99,108,97,115,104]]) .nil,.be (.cmp .eq (.len<|.v 5)<|.k<|.int 0) (.of [.asg (.v 6)<|.call 0<|.of [.v 0],.ret<|.ite (.cmp .isA (.v 6)<|.k .none) (.k .none)<|.ai (.v 3) 14<|.of [.v 6,.v 6]]) .nil,.asg (.v 15)<|.comp (.ai (.v 3) 16<|.of [.v 13]) (.v 13) (.pl<|.v 5) .c0,.be (.cmp .eq (.tup<|.of [.v 0,.len<|.v 15])<|.tup<|.of [.k<|.str [110,101,103],.k<|.int 1]) (.of [.ret<|.ai (.v 3) 14<|.of [.neg<|.sub (.sub (.v 15)<|.k<|.int 0)<|.k<|.int 1,.neg<|.sub (.sub (.v 15)<|.k<|.int 0)<|.k<|.int 0]]) .nil,.be (.cmp .eq (.tup<|.of [.v 0,.len<|.v 15])<|.tup<|.of [.k<|.str [97,100,100],.k<|.int 2]) (.of [.ret<|.ai (.v 3) 14<|.of [.bin .add (.sub (.sub (.v 15)<|.k<|.int 0)<|.k<|.int 0)<|.sub (.sub (.v 15)<|.k<|.int 1)<|.k<|.int 0,.bin .add (.sub (.sub (.v 15)<|.k<|.int 0)<|.k<|.int 1)<|.sub (.sub (.v 15)<|.k<|.int 1)<|.k<|.int 1]]) .nil,.be (.cmp .eq (.tup<|.of [.v 0,.len<|.v 15])<|.tup<|.of [.k<|.str [109,117,108],.k<|.int 2]) (.of [.asg (.v 17)<|.bx (.bin .mul (.v 18)<|.v 19) (.v 18) (.pl<|.sub (.v 15)<|.k<|.int 0) (.v 19)<|.pl<|.sub (.v 15)<|.k<|.int 1,.ret<|.ai (.v 3) 14<|.of [.mm EF<|.of [.v 17],.mm Do<|.of [.v 17]]]) .nil,.ret<|.k .none]}
noncomputable def p_:Fn:={params:=[3,7,8],body:=.of [.be (.bo EF<|.of [.cmp .isA (.v 7)<|.k .none,.cmp .isA (.v 8)<|.k .none]) (.of [.ret<|.ite (.cmp .isA (.v 7)<|.k .none) (.v 8)<|.v 7]) .nil,.be (.cmp .isIn (.k<|.str [99,108,97,115,104])<|.tup<|.of [.v 7,.v 8]) (.of [.ret<|.k<|.str [99,108,97,115,104]]) .nil,.asg (.t<|.of [.t<|.of [.v 11,.v 12],.t<|.of [.v 20,.v 21]])<|.tup<|.of [.ai (.v 3) 16<|.of [.v 7],.ai (.v 3) 16<|.of [.v 8]],.ret<|.ai (.v 3) 14<|.of [.mm Do<|.of [.v 11,.v 20],.mm EF<|.of [.v 12,.v 21]]]}
noncomputable def p':Fn:={params:=[3,22,23],body:=.of [.asg (.attr (.v 3) 22)<|.v 22,.asg (.attr (.v 3) 23)<|.v 23,.asg (.attr (.v 3) 5) .bf,.asg (.attr (.v 3) 24) .bf]}
noncomputable def qa:Fn:={params:=[3],body:=.of [.asg (.v 17) .bf,.for (.v 25) (.pl<|.sort<|.attr (.v 3) 5)<|.of [.asg (.v 26)<|.ai (.attr (.v 3) 22) 27<|.of [.v 25],.asg (.sub (.v 17)<|.v 26)<|.ai (.attr (.v 3) 23) 28<|.of [.dget (.v 17)<|.v 26,.sub (.attr (.v 3) 5)<|.v 25]],.asg (.attr (.v 3) 5)<|.v 17]}
noncomputable def qb:Fn:={params:=[3,25],body:=.of [.asg (.v 17)<|.dget (.attr (.v 3) 5)<|.v 25,.for (.v 29) (.pl<|.ai (.attr (.v 3) 22) 30<|.of [.v 25])<|.of [.asg (.v 31)<|.comp (.dget (.attr (.v 3) 5)<|.v 32) (.v 32) (.pl<|.d7 (.v 29) 1) .c0,.asg (.v 17)<|.ai (.attr (.v 3) 23) 28<|.of [.v 17,.ai (.attr (.v 3) 23) 33<|.of [.sub (.v 29)<|.k<|.int 0,.v 31]]],.ret<|.v 17]}
noncomputable def qc:Fn:={params:=[3],body:=.of [.ex<|.ai (.v 3) 34 .nil,.asg (.v 35)<|.cj Do<|.ai (.attr (.v 3) 22) 36 .nil,.asg (.v 37)<|.au (.v 25) (.k<|.bool Do) (.v 25) 35,.asg (.v 38)<|.k<|.int 0,.fu (.cmp .lt (.v 38)<|.len<|.v 35)<|.of [.asg (.t<|.of [.v 25,.v 38])<|.tup<|.of [.sub (.v 35)<|.v 38,.bin .add (.v 38)<|.k<|.int 1],.ex<|.d9 (.v 37)<|.v 25,.asg (.v 17)<|.ai (.v 3) 39<|.of [.v 25],.be (.cmp .ne (.v 17)<|.dget (.attr (.v 3) 5)<|.v 25) (.of [.asg (.sub (.attr (.v 3) 5)<|.v 25)<|.v 17,.for (.v 40) (.pl<|.ai (.attr (.v 3) 22) 41<|.of [.v 25])<|.of [.asg (.v 42)<|.ai (.attr (.v 3) 22) 27<|.of [.v 40],.be (.cmp .notIn (.v 42)<|.v 37) (.of [.asg (.sub (.v 37)<|.v 42)<|.k<|.bool Do,.ex<|.append (.v 35)<|.v 42]) .nil]]) .nil]]}
noncomputable def qd:Fn:={params:=[3],body:=.of [.ret<|.comp (.v 25) (.v 25) (.pl<|.ai (.attr (.v 3) 22) 36 .nil)<|.cmp .eq (.dget (.attr (.v 3) 5)<|.v 25)<|.k<|.str [99,108,97,115,104]]}
noncomputable def qe:Fn:={params:=[43],body:=.of [.ret<|.bo Do<|.of [.cmp .ne (.v 43)<|.k<|.str [],.cmp .eq (.comp (.v 2) (.v 2) (.pl<|.v 43)<|.bo EF<|.of [.x<|.isspace<|.v 2,.cmp .isIn (.v 2)<|.k<|.str [40,41,91,93,123,125,44,58]])<|.lst EF .nil]]}
noncomputable def qf:Fn:={params:=[3],body:=.of [.asg (.attr (.v 3) 44)<|.lst Do .nil,.asg (.attr (.v 3) 45) .bf,.asg (.attr (.v 3) 46)<|.lst Do .nil,.asg (.attr (.v 3) 47)<|.lst Do .nil]}
noncomputable def nC:Fn:={params:=[3,0,31],body:=.of [.asg (.v 29)<|.bin .add (.tup<|.of [.v 0])<|.cg<|.v 31,.be (.cmp .isIn (.v 29)<|.attr (.v 3) 45) (.of [.ret<|.sub (.attr (.v 3) 45)<|.v 29]) .nil,.ex<|.ai (.v 3) 48<|.of [.v 0],.for (.v 32) (.pl<|.d7 (.v 29) 1)<|.of [.be (.not<|.dz .le .lt (.k<|.int 0) (.v 32)<|.len<|.attr (.v 3) 44) (.of [.raise]) .nil],.asg (.sub (.attr (.v 3) 45)<|.v 29)<|.len<|.attr (.v 3) 44,.ex<|.append (.attr (.v 3) 44)<|.v 29,.ex<|.append (.attr (.v 3) 46)<|.bin .add (.k<|.int 1)<|.sum<|.comp (.sub (.attr (.v 3) 46)<|.v 32) (.v 32) (.pl<|.d7 (.v 29) 1) .c0,.ex<|.append (.attr (.v 3) 47)<|.bin .add (.k<|.int 1)<|.mm Do<|.of [.bin .add (.comp (.sub (.attr (.v 3) 47)<|.v 32) (.v 32) (.pl<|.d7 (.v 29) 1) .c0)<|.lst EF<|.of [.k<|.int 0]],.ret<|.bin .sub (.len<|.attr (.v 3) 44)<|.k<|.int 1]}
noncomputable def qg:Fn:={params:=[3,0],body:=.of [.be (.bo EF<|.of [.not<|.x<|.call 14<|.of [.v 0],.cmp .eq (.sub (.v 0)<|.k<|.int 0)<|.k<|.str [63]]) (.of [.raise]) .nil]}
noncomputable def qh:Fn:={params:=[3,4],body:=.of [.ret<|.sub (.sub (.attr (.v 3) 44)<|.v 4)<|.k<|.int 0]}
noncomputable def qi:Fn:={params:=[3,4],body:=.of [.ret<|.d7 (.sub (.attr (.v 3) 44)<|.v 4) 1]}
noncomputable def qj:Fn:={params:=[3],body:=.of [.asg (.attr (.v 3) 49)<|.lst Do .nil,.asg (.attr (.v 3) 50)<|.lst Do .nil,.asg (.attr (.v 3) 51)<|.lst Do .nil]}
noncomputable def qk:Fn:={params:=[3],body:=.of [.ex<|.append (.attr (.v 3) 49)<|.len<|.attr (.v 3) 49,.ex<|.append (.attr (.v 3) 50)<|.lst Do<|.of [.len<|.attr (.v 3) 50],.ret<|.bin .sub (.len<|.attr (.v 3) 49)<|.k<|.int 1]}
noncomputable def ql:Fn:={params:=[3],body:=.of [.ret<|.len<|.attr (.v 3) 49]}
noncomputable def qm:Fn:={params:=[3,18],body:=.of [.fu (.cmp .ne (.sub (.attr (.v 3) 49)<|.v 18)<|.v 18)<|.of [.asg (.v 18)<|.sub (.attr (.v 3) 49)<|.v 18],.ret<|.v 18]}
noncomputable def qn:Fn:={params:=[3,18,19],body:=.of [.asg (.t<|.of [.v 26,.v 52])<|.sort<|.lst EF<|.of [.ai (.v 3) 27<|.of [.v 18],.ai (.v 3) 27<|.of [.v 19]],.be (.cmp .eq (.v 26)<|.v 52) (.of [.ret<|.k .none]) .nil,.asg (.sub (.attr (.v 3) 49)<|.v 52)<|.v 26,.ex<|.extend (.sub (.attr (.v 3) 50)<|.v 26)<|.sub (.attr (.v 3) 50)<|.v 52,.ex<|.append (.attr (.v 3) 51)<|.tup<|.of [.v 26,.v 52],.ret<|.tup<|.of [.v 26,.v 52]]}
noncomputable def qo:Fn:={params:=[3,18],body:=.of [.ret<|.sort<|.sub (.attr (.v 3) 50)<|.ai (.v 3) 27<|.of [.v 18]]}
noncomputable def qp:Fn:={params:=[3],body:=.of [.ret<|.comp (.v 18) (.v 18) (.range<|.len<|.attr (.v 3) 49)<|.cmp .eq (.sub (.attr (.v 3) 49)<|.v 18)<|.v 18]}
noncomputable def qq:Fn:={params:=[3],body:=.of [.asg (.attr (.v 3) 53)<|.new 3 .nil,.asg (.attr (.v 3) 54)<|.new 4 .nil,.asg (.attr (.v 3) 55)<|.lst Do .nil,.asg (.attr (.v 3) 56)<|.lst Do .nil,.asg (.attr (.v 3) 57) .bf,.asg (.attr (.v 3) 49) .bf,.asg (.attr (.v 3) 37)<|.lst Do .nil]}
noncomputable def qr:Fn:={params:=[3,4],body:=.of [.ret<|.bin .add (.tup<|.of [.ai (.attr (.v 3) 53) 0<|.of [.v 4]])<|.cg<|.comp (.ai (.v 3) 27<|.of [.v 32]) (.v 32) (.pl<|.ai (.attr (.v 3) 53) 31<|.of [.v 4]) .c0]}
noncomputable def nD:Fn:={params:=[3,0,45],body:=.of [.asg (.v 4)<|.ai (.attr (.v 3) 53) 58<|.of [.v 0,.v 45],.be (.cmp .lt (.v 4)<|.ai (.attr (.v 3) 54) 59 .nil) (.of [.ret<|.v 4]) .nil,.ex<|.ai (.attr (.v 3) 54) 60 .nil,.asg (.sub (.attr (.v 3) 49)<|.v 4)<|.lst Do .nil,.for (.v 25) (.pl<|.sset<|.comp (.ai (.v 3) 27<|.of [.v 32]) (.v 32) (.pl<|.v 45) .c0)<|.of [.ex<|.append (.sub (.attr (.v 3) 49)<|.v 25)<|.v 4],.ex<|.ai (.v 3) 61<|.of [.v 4],.ret<|.v 4]}
noncomputable def j6:Fn:={params:=[3,62],body:=.of [.ret<|.ai (.v 3) 63<|.of [.sub (.v 62)<|.k<|.int 0,.cg<|.comp (.ai (.v 3) 64<|.of [.v 65]) (.v 65) (.pl<|.d7 (.v 62) 1) .c0]]}
noncomputable def qs:Fn:={params:=[3,4],body:=.of [.asg (.v 8)<|.dg (.attr (.v 3) 57) (.ai (.v 3) 29<|.of [.v 4])<|.v 4,.be (.cmp .ne (.ai (.v 3) 27<|.of [.v 8])<|.ai (.v 3) 27<|.of [.v 4]) (.of [.ex<|.ai (.v 3) 66<|.of [.v 8,.v 4,.tup<|.of [.k<|.str [108,105,107,101]]]]) .nil]}
noncomputable def qt:Fn:={params:=[3,4],body:=.of [.ret<|.ai (.attr (.v 3) 54) 27<|.of [.v 4]]}
noncomputable def qu:Fn:={params:=[3,18,19,67],body:=.of [.ret<|.ai (.v 3) 66<|.of [.v 18,.v 19,.v 67]]}
noncomputable def qw:Fn:={params:=[3,18,19,67],body:=.of [.ex<|.append (.attr (.v 3) 55)<|.tup<|.of [.v 18,.v 19,.v 67],.asg (.v 51)<|.ai (.attr (.v 3) 54) 68<|.of [.v 18,.v 19],.be (.cmp .isA (.v 51)<|.k .none) (.of [.ret<|.k<|.bool EF]) .nil,.asg (.t<|.of [.v 26,.v 52])<|.v 51,.ex<|.append (.attr (.v 3) 56)<|.bin .sub (.len<|.attr (.v 3) 55)<|.k<|.int 1,.ex<|.extend (.attr (.v 3) 37)<|.sub (.attr (.v 3) 49)<|.v 52,.asg (.sub (.attr (.v 3) 49)<|.v 26)<|.bin .add (.sub (.attr (.v 3) 49)<|.v 26)<|.d9 (.attr (.v 3) 49)<|.v 52,.ret<|.k<|.bool Do]}
noncomputable def qx:Fn:={params:=[3],body:=.of [.fu (.cmp .gt (.len<|.attr (.v 3) 37)<|.k<|.int 0)<|.of [.ex<|.ai (.v 3) 61<|.of [.pop<|.attr (.v 3) 37]]]}
noncomputable def qy:Fn:={params:=[3],body:=.of [.ret<|.ai (.attr (.v 3) 54) 36 .nil]}
noncomputable def qz:Fn:={params:=[3,25],body:=.of [.ret<|.ai (.attr (.v 3) 54) 69<|.of [.v 25]]}
noncomputable def qA:Fn:={params:=[3,25],body:=.of [.ret<|.sset<|.comp (.ai (.v 3) 29<|.of [.v 4]) (.v 4) (.pl<|.ai (.v 3) 69<|.of [.v 25]) .c0]}
noncomputable def qB:Fn:={params:=[3,25],body:=.of [.ret<|.sset<|.sub (.attr (.v 3) 49)<|.ai (.v 3) 27<|.of [.v 25]]}
noncomputable def qC:Fn:={params:=[],body:=.of [.ret<|.lst EF<|.of [.k<|.str [120],.k<|.str [121],.k<|.str [48],.k<|.str [49],.k<|.str [45,51],.k<|.str [57],.k<|.str [52]]]}
noncomputable def qD:Fn:={params:=[70,71],body:=.of [.asg (.t<|.of [.v 72,.v 38])<|.v 70,.asg (.sub (.v 70)<|.k<|.int 1)<|.bin .add (.v 38)<|.k<|.int 1,.ret<|.bin .mod (.ite (.cmp .lt (.v 38)<|.len<|.v 72) (.sub (.v 72)<|.v 38)<|.bin .mod (.bin .add (.bin .add (.bin .mul (.bin .mul (.k<|.int 9)<|.v 38)<|.v 38)<|.bin .mul (.k<|.int 4)<|.v 38)<|.k<|.int 2)<|.k<|.int 89)<|.v 71]}
noncomputable def nE:Fn:={params:=[70,73],body:=.of [.asg (.v 74)<|.ite (.cmp .gt (.v 73)<|.k<|.int 0) (.call 41<|.of [.v 70,.k<|.int 6])<|.k<|.int 0,.be (.cmp .lt (.v 74)<|.k<|.int 2) (.of [.ret<|.tup<|.of [.sub (.call 40 .nil)<|.call 41<|.of [.v 70,.k<|.int 7]]]) .nil,.asg (.v 0)<|.sub (.lst EF<|.of [.k<|.str [97,100,100],.k<|.str [109,117,108],.k<|.str [110,101,103],.k<|.str [102]])<|.bin .sub (.v 74)<|.k<|.int 2,.ret<|.bin .add (.tup<|.of [.v 0])<|.cg<|.comp (.call 42<|.of [.v 70,.bin .sub (.v 73)<|.k<|.int 1]) (.v 75) (.range<|.ite (.cmp .lt (.v 74)<|.k<|.int 4) (.k<|.int 2)<|.k<|.int 1) .c0]}
noncomputable def qE:Fn:={params:=[62,17],body:=.of [.for (.v 32) (.pl<|.d7 (.v 62) 1)<|.of [.ex<|.call 43<|.of [.v 32,.v 17]],.be (.cmp .notIn (.v 62)<|.v 17) (.of [.ex<|.append (.v 17)<|.v 62]) .nil]}
noncomputable def qF:Fn:={params:=[7,8,76],body:=.of [.ret<|.bo Do<|.of [.cmp .eq (.sub (.v 7)<|.k<|.int 0)<|.sub (.v 8)<|.k<|.int 0,.cmp .eq (.comp (.sub (.v 76)<|.v 32) (.v 32) (.pl<|.d7 (.v 7) 1) .c0)<|.comp (.sub (.v 76)<|.v 32) (.v 32) (.pl<|.d7 (.v 8) 1) .c0]]}
noncomputable def qG:Fn:={params:=[15,24],body:=.of [.asg (.t<|.of [.v 76,.v 77])<|.tup<|.of [.b8 EF (.v 7) (.v 78) (.t<|.of [.v 78,.v 7])<|.enum<|.v 15,.k<|.bool Do],.fu (.x<|.v 77)<|.of [.asg (.v 77)<|.k<|.bool EF,.for (.t<|.of [.v 78,.v 7]) (.enum<|.v 15)<|.of [.for (.v 8) (.pl<|.fz (.v 15)<|.v 78)<|.of [.be (.bo Do<|.of [.cmp .ne (.sub (.v 76)<|.v 7)<|.sub (.v 76)<|.v 8,.bo EF<|.of [.cmp .isIn (.tup<|.of [.v 7,.v 8])<|.v 24,.x<|.call 44<|.of [.v 7,.v 8,.v 76]]]) (.of [.asg (.t<|.of [.v 11,.v 12])<|.sort<|.lst EF<|.of [.sub (.v 76)<|.v 7,.sub (.v 76)<|.v 8],.asg (.v 76)<|.b8 EF (.v 79) (.ite (.cmp .eq (.v 38)<|.v 12) (.v 11)<|.v 38) (.t<|.of [.v 79,.v 38])<|.items<|.v 76,.asg (.v 77)<|.k<|.bool Do]) .nil]]],.ret<|.v 76]}
noncomputable def qH:Fn:={params:=[11,12,9],body:=.of [.ret<|.tup<|.of [.ite (.cmp .lt (.v 11)<|.neg<|.v 9) (.neg<|.g 80 1000000)<|.mm EF<|.of [.v 11,.v 9],.ite (.cmp .gt (.v 12)<|.v 9) (.g 80 1000000)<|.mm Do<|.of [.v 12,.neg<|.v 9]]]}
noncomputable def qI:Fn:={params:=[0,31,9],body:=.of [.be (.cmp .isIn (.k<|.str [99,108,97,115,104])<|.v 31) (.of [.ret<|.k<|.str [99,108,97,115,104]]) .nil,.be (.bo Do<|.of [.cmp .eq (.v 31)<|.lst EF .nil,.cmp .notIn (.v 0)<|.k<|.str [120,121]]) (.of [.ret<|.call 46<|.of [.toInt<|.v 0,.toInt<|.v 0,.v 9]]) .nil,.be (.cmp .eq (.v 0)<|.k<|.str [110,101,103]) (.of [.ret<|.call 46<|.of [.neg<|.sub (.sub (.v 31)<|.k<|.int 0)<|.k<|.int 1,.neg<|.sub (.sub (.v 31)<|.k<|.int 0)<|.k<|.int 0,.v 9]]) .nil,.be (.cmp .eq (.v 0)<|.k<|.str [97,100,100]) (.of [.ret<|.call 46<|.of [.bin .add (.sub (.sub (.v 31)<|.k<|.int 0)<|.k<|.int 0)<|.sub (.sub (.v 31)<|.k<|.int 1)<|.k<|.int 0,.bin .add (.sub (.sub (.v 31)<|.k<|.int 0)<|.k<|.int 1)<|.sub (.sub (.v 31)<|.k<|.int 1)<|.k<|.int 1,.v 9]]) .nil,.be (.cmp .eq (.v 0)<|.k<|.str [109,117,108]) (.of [.asg (.v 16)<|.sort<|.bx (.bin .mul (.v 18)<|.v 19) (.v 18) (.pl<|.sub (.v 31)<|.k<|.int 0) (.v 19)<|.pl<|.sub (.v 31)<|.k<|.int 1,.ret<|.call 46<|.of [.sub (.v 16)<|.k<|.int 0,.sub (.v 16)<|.k<|.int 3,.v 9]]) .nil,.ret<|.tup<|.of [.neg<|.g 80 1000000,.g 80 1000000]]}
noncomputable def qJ:Fn:={params:=[7,8],body:=.of [.be (.bo EF<|.of [.cmp .eq (.v 7)<|.k<|.str [99,108,97,115,104],.cmp .eq (.v 8)<|.k<|.str [99,108,97,115,104]]) (.of [.ret<|.k<|.str [99,108,97,115,104]]) .nil,.asg (.t<|.of [.v 11,.v 12])<|.tup<|.of [.mm Do<|.of [.sub (.v 7)<|.k<|.int 0,.sub (.v 8)<|.k<|.int 0],.mm EF<|.of [.sub (.v 7)<|.k<|.int 1,.sub (.v 8)<|.k<|.int 1]],.ret<|.ite (.cmp .gt (.v 11)<|.v 12) (.k<|.str [99,108,97,115,104])<|.tup<|.of [.v 11,.v 12]]}
noncomputable def qK:Fn:={params:=[0,31,4],body:=.of [.be (.cmp .eq (.v 31)<|.lst EF .nil) (.of [.ret<|.ite (.cmp .isIn (.v 0)<|.k<|.str [120,121]) (.k<|.str [])<|.bin .mod (.toInt<|.v 0)<|.v 4]) .nil,.be (.bo EF<|.of [.cmp .isIn (.k<|.str [])<|.v 31,.cmp .eq (.v 0)<|.k<|.str [102]]) (.of [.ret<|.k<|.str []]) .nil,.be (.cmp .isIn (.k<|.str [99,108,97,115,104])<|.v 31) (.of [.ret<|.k<|.str [99,108,97,115,104]]) .nil,.ret<|.bin .mod (.ite (.cmp .eq (.v 0)<|.k<|.str [110,101,103]) (.neg<|.sub (.v 31)<|.k<|.int 0)<|.ite (.cmp .eq (.v 0)<|.k<|.str [97,100,100]) (.bin .add (.sub (.v 31)<|.k<|.int 0)<|.sub (.v 31)<|.k<|.int 1)<|.bin .mul (.sub (.v 31)<|.k<|.int 0)<|.sub (.v 31)<|.k<|.int 1)<|.v 4]}
noncomputable def qL:Fn:={params:=[7,8],body:=.of [.be (.bo EF<|.of [.cmp .eq (.v 7)<|.k<|.str [],.cmp .eq (.v 8)<|.k<|.str [],.cmp .eq (.v 7)<|.v 8]) (.of [.ret<|.ite (.cmp .eq (.v 8)<|.k<|.str []) (.v 7)<|.v 8]) .nil,.ret<|.k<|.str [99,108,97,115,104]]}
noncomputable def qM:Fn:={params:=[15,76,81,82],body:=.of [.asg (.t<|.of [.v 83,.v 77])<|.tup<|.of [.b8 Do (.v 38) (.ite (.x<|.v 81) (.tup<|.of [.neg<|.g 80 1000000,.g 80 1000000])<|.k<|.str []) (.v 38)<|.values<|.v 76,.k<|.bool Do],.fu (.x<|.v 77)<|.of [.asg (.v 77)<|.k<|.bool EF,.for (.v 7) (.pl<|.v 15)<|.of [.asg (.t<|.of [.v 31,.v 38])<|.tup<|.of [.comp (.sub (.v 83)<|.sub (.v 76)<|.v 32) (.v 32) (.pl<|.d7 (.v 7) 1) .c0,.sub (.v 76)<|.v 7],.asg (.v 42)<|.ite (.x<|.v 81) (.call 47<|.of [.sub (.v 7)<|.k<|.int 0,.v 31,.v 82])<|.call 49<|.of [.sub (.v 7)<|.k<|.int 0,.v 31,.v 82],.asg (.v 42)<|.ite (.x<|.v 81) (.call 48<|.of [.sub (.v 83)<|.v 38,.v 42])<|.call 50<|.of [.sub (.v 83)<|.v 38,.v 42],.be (.cmp .ne (.v 42)<|.sub (.v 83)<|.v 38) (.of [.asg (.t<|.of [.sub (.v 83)<|.v 38,.v 77])<|.tup<|.of [.v 42,.k<|.bool Do]]) .nil]],.f9 83,.ret<|.comp (.v 38) (.v 38) (.pl<|.v 83)<|.cmp .eq (.sub (.v 83)<|.v 38)<|.k<|.str [99,108,97,115,104]]}
noncomputable def qN:Fn:={params:=[84,24,15,76,85,23,86],body:=.of [.asg (.v 22)<|.new 5 .nil,.asg (.v 87)<|.new 2<|.of [.v 22,.v 23],.for (.v 62) (.pl<|.v 84)<|.of [.ex<|.ai (.v 22) 64<|.of [.v 62]],.for (.t<|.of [.v 78,.t<|.of [.v 7,.v 8]]) (.enum<|.v 24)<|.of [.ex<|.ai (.v 22) 68<|.of [.ai (.v 22) 64<|.of [.v 7],.ai (.v 22) 64<|.of [.v 8],.tup<|.of [.k<|.str [116,111,108,100],.bin .add (.k<|.str [116])<|.toStr<|.v 78]],.be (.not<|.x<|.v 86) (.of [.ex<|.ai (.v 22) 88 .nil,.ex<|.ai (.v 87) 88 .nil]) .nil],.ex<|.ai (.v 22) 88 .nil,.ex<|.ai (.v 87) 88 .nil,.asg (.v 89) .bf,.for (.v 7) (.pl<|.v 15)<|.of [.asg (.sub (.v 89)<|.sub (.v 76)<|.v 7)<|.mm EF<|.of [.dm (.v 89) (.sub (.v 76)<|.v 7)<|.g 80 1000000,.ai (.v 22) 64<|.of [.v 7]]],.asg (.v 35)<|.ai (.v 87) 90 .nil,.ex<|.ai (.v 87) 88 .nil,.ret<|.bo Do<|.of [.cmp .eq (.v 35)<|.sort<|.comp (.sub (.v 89)<|.v 38) (.v 38) (.pl<|.v 85) .c0,.cmp .eq (.ai (.v 87) 90 .nil)<|.v 35]]}
noncomputable def qO:Fn:={params:=[91],body:=.of [.asg (.t<|.of [.v 70,.v 15])<|.tup<|.of [.lst Do<|.of [.cj EF<|.fz (.v 91)<|.k<|.int 50,.k<|.int 0],.lst Do .nil],.asg (.v 84)<|.comp (.call 42<|.of [.v 70,.k<|.int 2]) (.v 75) (.range<|.bin .add (.k<|.int 2)<|.call 41<|.of [.v 70,.k<|.int 2]) .c0,.for (.v 62) (.pl<|.v 84)<|.of [.ex<|.call 43<|.of [.v 62,.v 15]],.f9 15,.asg (.v 24)<|.comp (.tup<|.of [.sub (.v 15)<|.call 41<|.of [.v 70,.len<|.v 15],.sub (.v 15)<|.call 41<|.of [.v 70,.len<|.v 15]]) (.v 75) (.range<|.call 41<|.of [.v 70,.k<|.int 5]) .c0,.asg (.t<|.of [.v 9,.v 4])<|.tup<|.of [.bin .add (.k<|.int 2)<|.call 41<|.of [.v 70,.k<|.int 8],.bin .add (.k<|.int 2)<|.call 41<|.of [.v 70,.k<|.int 5]],.asg (.v 76)<|.call 45<|.of [.v 15,.bin .add (.v 24)<|.comp (.fj<|.v 92) (.v 92) (.pl<|.v 24) .c0],.for (.v 81) (.pl<|.tup<|.of [.k<|.bool Do,.k<|.bool EF])<|.of [.asg (.t<|.of [.v 85,.v 86])<|.tup<|.of [.call 51<|.of [.v 15,.v 76,.v 81,.ite (.x<|.v 81) (.v 9)<|.v 4],.cmp .eq (.call 41<|.of [.v 70,.k<|.int 2])<|.k<|.int 1],.asg (.v 23)<|.ite (.x<|.v 81) (.new 1<|.of [.v 9])<|.new 0<|.of [.v 4],.be (.not<|.x<|.call 52<|.of [.v 84,.v 24,.v 15,.v 76,.v 85,.v 23,.v 86]) (.of [.ret<|.k<|.bool EF]) .nil,.be (.not<|.x<|.call 52<|.of [.fj<|.v 84,.fj<|.v 24,.v 15,.v 76,.v 85,.v 23,.not<|.v 86]) (.of [.ret<|.k<|.bool EF]) .nil],.ret<|.k<|.bool Do]}
noncomputable def vq:List Fn:=[nA,p5,jb,p6,p7,p8,p9,nB,p_,p',qa,qb,qc,qd,qe,qf,nC,qg,qh,qi,qj,qk,ql,qm,qn,qo,qp,qq,qr,nD,j6,qs,qt,qu,qw,qx,qy,qz,qA,qB,qC,qD,nE,qE,qF,qG,qH,qI,qJ,qK,qL,qM,qN,qO]
noncomputable def fO(i:Nat):Option Fn:=vq[i]?
noncomputable def j7:List<|Nat×String:=[(0,"whole_of"),(14,"is_op"),(40,"_law_leaves"),(41,"_law_pull"),(42,"_law_term"),(43,"_law_gather"),(44,"_law_is_alike"),(45,"_law_closed"),(46,"_law_cut"),(47,"_law_span"),(48,"_law_met"),(49,"_law_figure"),(50,"_law_agreed"),(51,"_law_clashes"),(52,"_law_is_right"),(53,"law")]
noncomputable def j8:List<|Nat×String:=[(0,"Consts"),(1,"Spans"),(2,"Keeper"),(3,"Bank"),(4,"Unions"),(5,"Heap")]
noncomputable def jc:List<|Nat×Nat×Nat:=[(0,33,2),(0,28,3),(1,14,5),(1,16,6),(1,33,7),(1,28,8),(2,34,10),(2,39,11),(2,88,12),(2,90,13),(3,58,16),(3,48,17),(3,0,18),(3,31,19),(4,60,21),(4,59,22),(4,27,23),(4,68,24),(4,69,25),(4,36,26),(5,29,28),(5,63,29),(5,64,30),(5,61,31),(5,27,32),(5,68,33),(5,66,34),(5,88,35),(5,36,36),(5,69,37),(5,30,38),(5,41,39)]
noncomputable def h7:List<|Nat×Nat:=[(0,1),(1,4),(2,9),(3,15),(4,20),(5,27)]
noncomputable def eE:List Nat:=[4,9,10,22,23,5,24,44,45,46,47,49,50,51,53,54,55,56,57,37]
noncomputable def tab:lC where
 init:=λc=>h7.lookup c
 ai:=λc y=>(jc.find? λx=>x.1==c&&x.2.1==y).map (·.2.2)
end Mine.Internal
open PySem PySem.W PyProof.Rows
namespace Mine.Internal
mutual
noncomputable def a8(A:F7):V->Int|.int i=>hashInt i|.str r=>hashStr A ⟨r.toArray⟩|.tup z=>reduceHash<|L7<|h8 A z|_=>0
noncomputable def h8(A:F7):List V->List Int|[]=>[]|x::o=>a8 A x::h8 A o
end
mutual
noncomputable def h9:V->Nat|.tup z=>h_ z+1|_=>1
noncomputable def h_:List V->Nat|[]=>0|x::o=>h9 x+h_ o
end
def cZ(f:List<|V×V):Prop:=((∀e∈f,g4 e.1)\/∀e∈f,gF e.1)/\(f.map (·.1)).Nodup
mutual
inductive Rep(w:World)(h:Heap)(Z:Addr->Prop):Value->V->Prop|none:Rep w h Z .none .none|bool(b:Bool):Rep w h Z (.bool b)<|.bool b|int(i:Int)(t:Tok):Rep w h Z (.int i t)<|.int i|str(s:List Nat)(t:Tok):Rep w h Z (.str ⟨s.toArray⟩ t)<|.str s|ref(a:Addr):Rep w h Z (.ref a)<|.ref a|tup(a:Addr)(vs:List Value)(n:Nat)(xs:List V):Z a->h.get? a=some (seqObj "tuple" vs.toArray n)->Reps w h Z vs xs->Rep w h Z (.ref a) (.tup xs)|lst(a:Addr)(vs:List Value)(n:Nat)(xs:List V):Z a->h.get? a=some (seqObj "list" vs.toArray n)->Reps w h Z vs xs->Rep w h Z (.ref a) (.lst xs)|br(a:Addr)(ds:List DictEntry)(n:Nat)(es:List<|V×V):Z a->h.get? a=some {cls:=.type "dict",data:=.dict ds.toArray n}->RepE w h Z ds es->cZ es/\(a==sysModules)=false->Rep w h Z (.ref a) (.br es)inductive Reps(w:World)(h:Heap)(Z:Addr->Prop):List Value->List V->Prop|nil:Reps w h Z [] []|cons{v:Value}{x:V}{vs:List Value}{xs:List V}:Rep w h Z v x->Reps w h Z vs xs->Reps w h Z (v::vs) (x::xs)inductive RepE(w:World)(h:Heap)(Z:Addr->Prop):List DictEntry->List (V×V)->Prop|nil:RepE w h Z [] []|cons{e:DictEntry}{k v:V}{ds:List DictEntry}{es:List<|V×V}:e.hash=a8 w k->Rep w h Z e.key k->Rep w h Z e.val v->RepE w h Z ds es->RepE w h Z (e::ds) ((k,v)::es)end
section
variable{A:F7}{h h':F6}{Z Z':EZ->Prop}
def qP(A:F7)(h:F6)(Z:EZ->Prop)(v:EI):V->Prop|.none=>v=.none|.bool p=>v=.bool p|.int i=>∃t,v=.int i t|.str r=>∃t,v=.str ⟨r.toArray⟩ t|.ref d=>v=.ref d|.tup z=>∃d Y l,Z d/\h.get? d=j' (FF "tuple" Y.toArray l)/\Reps A h Z Y z/\v=.ref d|.lst z=>∃d Y l,Z d/\h.get? d=j' (FF "list" Y.toArray l)/\Reps A h Z Y z/\v=.ref d|.br f=>∃d ds l,Z d/\h.get? d=j' {cls:=.type "dict",data:=.dict ds.toArray l}/\RepE A h Z ds f/\(cZ f/\(d==HB)=EF)/\v=.ref d
def qQ(A:F7)(h:F6)(Z:EZ->Prop)(Y:List EI):List V->Prop|[]=>Y=[]|x::z=>∃v f,Rep A h Z v x/\Reps A h Z f z/\Y=v::f
def qR(A:F7)(h:F6)(Z:EZ->Prop)(ds:List FX):List (V×V)->Prop|[]=>ds=[]|x::z=>∃e f,e.hash=a8 A x.1/\Rep A h Z e.key x.1/\Rep A h Z e.val x.2/\RepE A h Z f z/\ds=e::f
theorem Rep.inv(o:Rep A h Z v x):qP A h Z v x:=o.casesOn (motive_1:=λv x p=>qP A h Z v x) rfl (λp=>rfl) (λp t=>⟨t,rfl⟩) (λp t=>⟨t,rfl⟩) (λp=>rfl) (λd Y l p M g o=>⟨d,Y,l,M,g,o,rfl⟩) (λd Y l p M g o=>⟨d,Y,l,M,g,o,rfl⟩) λd Y l p M g o k=>⟨d,Y,l,M,g,o,k,rfl⟩
theorem Reps.inv(o:Reps A h Z Y z):qQ A h Z Y z:=o.casesOn (motive_2:=λv x d=>qQ A h Z v x) rfl λo q=>⟨_,_,o,q,rfl⟩
theorem RepE.inv(o:RepE A h Z Y z):qR A h Z Y z:=o.casesOn (motive_3:=λv x c=>qR A h Z v x) rfl λd p o q=>⟨_,_,d,p,o,q,rfl⟩
section
variable{v:EI}{P:EI->Prop}
@[elab_as_elim]theorem Rep.ff(o:Rep A h Z v .none)(c:P .none):P v:=o.inv▸c
@[elab_as_elim]theorem Rep.gd(o:Rep A h Z v<|.bool p)(c:P<|.bool p):P v:=o.inv▸c
@[elab_as_elim]theorem Rep.d3(o:Rep A h Z v<|.int i)(c:∀t,P<|.int i t):P v:=o.inv.elim λt e=>e▸c t
@[elab_as_elim]theorem Rep.dc(o:Rep A h Z v<|.str r)(c:∀t,P<|.str ⟨r.toArray⟩ t):P v:=o.inv.elim λt e=>e▸c t
@[elab_as_elim]theorem Rep.fb(o:Rep A h Z v<|.ref d)(c:P<|.ref d):P v:=o.inv▸c
@[elab_as_elim]theorem Rep.di(o:Rep A h Z v<|.tup z)(c:∀d Y l,Z d->h.get? d=j' (FF "tuple" Y.toArray l)->Reps A h Z Y z->P (.ref d)):P v:=by refine dJ o.inv λd Y l M g o e=>e▸c d Y l M g o
@[elab_as_elim]theorem Rep.ez(o:Rep A h Z v<|.lst z)(c:∀d Y l,Z d->h.get? d=j' (FF "list" Y.toArray l)->Reps A h Z Y z->P (.ref d)):P v:=by refine dJ o.inv λd Y l M g o e=>e▸c d Y l M g o
@[elab_as_elim]theorem Rep.fw(o:Rep A h Z v<|.br z)(c:∀d ds l,Z d->h.get? d=j' {cls:=.type "dict",data:=.dict ds.toArray l}->RepE A h Z ds z->cZ z/\(d==HB)=EF->P (.ref d)):P v:=by refine gB o.inv λd Y l M g o k e=>e▸c d Y l M g o k
end
@[elab_as_elim]theorem Reps.et{P:List EI->Prop}{Y:List EI}(o:Reps A h Z Y [])(c:P []):P Y:=o.inv▸c
@[elab_as_elim]theorem Reps.b7{P:List EI->Prop}{Y:List EI}{x:V}{z:List V}(o:Reps A h Z Y<|x::z)(c:∀v f,Rep A h Z v x->Reps A h Z f z->P (v::f)):P Y:=by refine cM o.inv λv f o q e=>e▸c v f o q
@[elab_as_elim]theorem RepE.et{P:List FX->Prop}{Y:List FX}(o:RepE A h Z Y [])(c:P []):P Y:=o.inv▸c
@[elab_as_elim]theorem RepE.b7{P:List FX->Prop}{Y:List FX}{x:V×V}{z:List<|V×V}(o:RepE A h Z Y<|x::z)(c:∀e f,e.hash=a8 A x.1->Rep A h Z e.key x.1->Rep A h Z e.val x.2->RepE A h Z f z->P (e::f)):P Y:=by refine i9 o.inv λv f d p o q e=>e▸c v f d p o q
theorem Reps.ind{P:List EI->List V->Prop}(l:P [] [])(c:∀{v}{x}{Y}{z},Rep A h Z v x->Reps A h Z Y z->P Y z->P (v::Y) (x::z)):∀{Y}{z},Reps A h Z Y z->P Y z:=λ{Y z}=>by induction z generalizing Y with|nil=>exactλo=>o.et (P:=λY=>P Y []) l|cons x z ih=>exactλo=>o.b7 (P:=λY=>P Y<|x::z) λv f o q=>c o q<|ih q
theorem RepE.ind{P:List FX->List (V×V)->Prop}(l:P [] [])(c:∀{e}{x}{Y}{z},e.hash=a8 A x.1->Rep A h Z e.key x.1->Rep A h Z e.val x.2->RepE A h Z Y z->P Y z->P (e::Y) (x::z)):∀{Y}{z},RepE A h Z Y z->P Y z:=λ{Y z}=>by induction z generalizing Y with|nil=>exactλo=>o.et (P:=λY=>P Y []) l|cons x z ih=>exactλo=>o.b7 (P:=λY=>P Y<|x::z) λv f d p o q=>c d p o q<|ih q
section
variable(hz:∀d,Z d->Z' d)(X:∀d D,Z d->h.get? d=j' D->h'.get? d=j' D)
include hz X
theorem Rep.mono(o:Rep A h Z v x):Rep A h' Z' v x:=o.rec (motive_1:=λv x G=>Rep A h' Z' v x) (motive_2:=λv x G=>Reps A h' Z' v x) (motive_3:=λv x G=>RepE A h' Z' v x) .none .bool .int .str .ref (λd Y l z M g G o=>.tup d Y l z (hz d M) (X d _ M g) o) (λd Y l z M g G o=>.lst d Y l z (hz d M) (X d _ M g) o) (λd Y l z M g G k o=>.br d Y l z (hz d M) (X d _ M g) o k) .nil (λG G o q=>.cons o q) .nil λe G G G d p c=>.cons e d p c
theorem Reps.mono{v:List EI}{x:List V}(o:Reps A h Z v x):Reps A h' Z' v x:=o.ind .nil λo d q=>.cons (o.mono hz X) q
theorem RepE.mono{v:List FX}{x:List<|V×V}(o:RepE A h Z v x):RepE A h' Z' v x:=o.ind .nil λe d p c q=>.cons e (d.mono hz X) (p.mono hz X) q
end
theorem Reps.length{Y:List EI}{z:List V}(o:Reps A h Z Y z):Y.length=z.length:=o.ind (P:=λY z=>Y.length=z.length) rfl λd d q=>aY Nat.succ q
theorem Reps.get{z:List V}(o:Reps A h Z Y z):∀{i:Nat}{x:V},z[i]?=j' x->∃v,Y[i]?=j' v/\Rep A h Z v x:=o.ind (P:=λY z=>∀{i}{x},z[i]?=j' x->∃v,Y[i]?=j' v/\Rep A h Z v x) (λh=>aP h) λ{v _ _ _}o _ ih{i _}=>match i with|0=>λE=>⟨v,rfl,EA E▸o⟩|_+1=>λE=>ih E
theorem Reps.append{Y J:List EI}{z a:List V}(o:Reps A h Z Y z)(q:Reps A h Z J a):Reps A h Z (Y++J)<|z++a:=o.ind (P:=λY z=>Reps A h Z (Y++J)<|z++a) q λo d ih=>.cons o ih
theorem Reps.drop{Y:List EI}{z:List V}(o:Reps A h Z Y z):∀l,Reps A h Z (Y.drop l)<|z.drop l:=o.ind (P:=λY z=>∀l,Reps A h Z (Y.drop l)<|z.drop l) (λl=>LD.symm▸LD.symm▸.nil) λo q ih l=>by induction l with|zero=>exact .cons o q|succ l=>exact ih l
theorem Reps.take{Y:List EI}{z:List V}(o:Reps A h Z Y z):∀l,Reps A h Z (Y.take l)<|z.take l:=o.ind (P:=λY z=>∀l,Reps A h Z (Y.take l)<|z.take l) (λl=>List.take_nil.symm▸List.take_nil.symm▸.nil) λo d ih l=>by induction l with|zero=>exact .nil|succ l=>exact .cons o<|ih l
theorem Reps.snoc(o:Reps A h Z Y z)(q:Rep A h Z v x):Reps A h Z (Y++[v])<|z++[x]:=o.append<|.cons q .nil
section
variable{v:EI}{x:V}{H:Hp}{d:Nat}{ab:Prop}
@[elab_as_elim]theorem eF{P:EI->V->Prop}{w:Int->Prop}(o:Rep A h Z v x)(k:av (bN x) w)(c:∀i t,w i->P (.int i t) (.int i)):P v x:=match x with|.int i=>o.d3 (P:=λv=>P v<|.int i) λt=>c i t k
@[elab_as_elim]theorem vr{P:EI->V->Prop}{w:List Nat->Prop}(o:Rep A h Z v x)(k:av (h6 x) w)(c:∀i t,w i->P (.str ⟨i.toArray⟩ t) (.str i)):P v x:=match x with|.str i=>o.dc (P:=λv=>P v<|.str i) λt=>c i t k
@[elab_as_elim]theorem j9{P:EI->V->Prop}{w:Bool->Prop}(o:Rep A h Z v x)(k:av (eP x) w)(c:∀i,w i->P (.bool i) (.bool i)):P v x:=match x with|.bool i=>o.gd (P:=λv=>P v<|.bool i)<|c i k
@[elab_as_elim]theorem g5{P:EI->V->Prop}{w:Nat->Prop}(o:Rep A h Z v x)(k:av (cF x) w)(c:∀i,w i->P (.ref i) (.ref i)):P v x:=match x with|.ref i=>o.fb (P:=λv=>P v<|.ref i)<|c i k
theorem nF{w:Nat->Nat->List (Nat×V)->Prop}(k:av (H d) λob=>match ob with|.inst c dx fs=>w c dx fs|_=>False)(c:∀c dx fs,H d=j' (.inst c dx fs)->w c dx fs->ab):ab:=dK k λob e k=>by induction ob with|inst i dx fs=>exact c i dx fs e k|_=>exact k.elim
theorem lD{w:List V->Prop}(k:av (H d) λob=>match ob with|.list z=>w z|_=>False)(c:∀z,H d=j' (.list z)->w z->ab):ab:=dK k λob e k=>by induction ob with|list i=>exact c i e k|_=>exact k.elim
theorem qS{w:List (V×V)->Prop}(k:av (H d) λob=>match ob with|.dict z=>w z|_=>False)(c:∀z,H d=j' (.dict z)->w z->ab):ab:=dK k λob e k=>by induction ob with|dict i=>exact c i e k|_=>exact k.elim
end
end
theorem qT(h:cF v=j' d):v=.ref d:=by induction v using Mine.Internal.V.casesOn with|ref=>exact aY V.ref<|EA h|_=>exact aP h
mutual
noncomputable def pd:V->PyData|.none=>.none|.bool p=>.bool p|.int i=>.int i|.str r=>.str ⟨r.toArray⟩|.tup z=>.tuple<|eS z|.lst z=>.list<|eS z|_=>.none
noncomputable def eS:List V->List PyData|[]=>[]|x::o=>pd x::eS o
end
section
variable{A:F7}{h:F6}{Z:EZ->Prop}
def qU(l:Nat):V->Prop|.none=>True|.int _=>True|.str r=>∀c∈r,c<128|.tup z=>∃y,l=y+1/\∀x∈z,PureN y x|.lst z=>∃y,l=y+1/\∀x∈z,PureN y x|_=>False
theorem PureN.inv(j:PureN l x):qU l x:=j.casesOn (motive:=λl x d=>qU l x) (λd=>trivial) (λd d=>trivial) (λd d h=>h) (λl d h=>⟨l,rfl,h⟩) λl d h=>⟨l,rfl,h⟩
theorem hD(l:Nat){x:V}(hp:PureN l x)(o:Rep A h Z v x):∃as,Reads h v (pd x) as:=by induction l using Ii generalizing v x with|_ l ih=>have all:∀y,l=y+1->∀{Y}{z},Reps A h Z Y z->(∀x∈z,PureN y x)->∃as,ReadsAll h Y (eS z) as:=λy e=>Reps.ind (P:=λY z=>(∀x∈z,PureN y x)->∃as,ReadsAll h Y (eS z) as) (λp=>⟨_,.nil⟩) λo p j hp=>ax (ih y (e▸Fq y) (hp _<|.head _) o) λp J=>ax (j λu hy=>hp u<|.tail _ hy) λp L=>⟨_,.cons J L⟩;have I:=hp.inv;clear hp;induction x using Mine.Internal.V.casesOn with|none=>exact o.ff ⟨_,.none⟩|int i=>exact o.d3 λt=>⟨_,.int i t⟩|str r=>exact o.dc λt=>⟨_,.str _ t⟩|tup z=>exact o.di λd Y k M g q=>aA I λy e E=>ax (all y e q E) λp ha=>⟨_,.tuple g rfl rfl ha⟩|lst z=>exact o.ez λd Y k M g q=>aA I λy e E=>ax (all y e q E) λp ha=>⟨_,.list g rfl rfl ha⟩|_=>exact I.elim
theorem j_(l:Nat)(hp:PureN l x):(pd x).canLay0=Do/\(pd x).depth<=l:=by induction l using Ii generalizing x with|_ l ih=>
  have all:∀y,l=y+1->∀z,(∀x∈z,PureN y x)->PyData.canLayAll0 (eS z)=Do/\O_ (eS z)<=y:=λy e z=>by induction z with|nil=>exactλG=>⟨rfl,E8 _⟩|cons x z j=>exactλhp=>have d:=ih y (e▸Fq y)<|hp x<|.head _;have p:=j λu hy=>hp u<|.tail _ hy;⟨GY.mpr ⟨d.1,p.1⟩,Nat.max_le.mpr ⟨d.2,p.2⟩⟩
  have I:=hp.inv;clear hp;induction x using Mine.Internal.V.casesOn with|none=>exact⟨rfl,E8 _⟩|int=>exact⟨rfl,E8 _⟩|str r=>refine⟨?_,E8 _⟩;show r.toArray.all (·<0x110000)=Do;rw[OT,FE];exactλc hc=>dI<|GA (I c hc) dd|tup z=>exact aA I λy e E=>e▸⟨(all y e z E).1,GF (all y e z E).2⟩|lst z=>exact aA I λy e E=>e▸⟨(all y e z E).1,GF (all y e z E).2⟩|_=>exact I.elim
theorem vt{r t:List Nat}(e:(⟨r.toArray⟩:EJ)=⟨t.toArray⟩):r=t:=by have:=aY (λx:EJ=>x.cps.toList) e;simpa using this
theorem lE(l:Nat)(hp:PureN l x)(hq:PureN y u):ND (pd x) (pd u)=Do↔x=u:=by induction l using Ii generalizing x u y with|_ l ih=>
  have all:∀k,l=k+1->∀z,(∀x∈z,PureN k x)->∀ys{y},(∀u∈ys,PureN y u)->(PyData.eqvAll (eS z) (eS ys)=Do↔z=ys):=λk e z=>by induction z with
   |nil=>exactλd ys d d=>by induction ys with|nil=>exact⟨λd=>rfl,λd=>rfl⟩|cons=>exact⟨λe=>EX e,λe=>List.noConfusion rfl<|heq_of_eq e⟩
   |cons x z j=>intro hp ys y hq;induction ys with|nil=>exact⟨λe=>EX e,λe=>by cases e⟩|cons u ys=>exact GY.trans<|(and_congr (ih k (e▸Fq k) (hp x<|.head _)<|hq u<|.head _)<|j (λM hz=>hp M<|.tail _ hz) ys λM hz=>hq M<|.tail _ hz).trans (List.cons.injEq x z u ys).symm.to_iff
  have I:=hp.inv;have f:=hq.inv;clear hp;induction x using Mine.Internal.V.casesOn with
  |none=>clear hq;induction u using Mine.Internal.V.casesOn with|none=>exact⟨λd=>rfl,λd=>rfl⟩|_=>first|exact f.elim|exact⟨λe=>EX e,λe=>by cases e⟩
  |int i=>clear hq;induction u using Mine.Internal.V.casesOn with|int a=>exact⟨λe=>aY V.int<|of_decide_eq_true e,λe=>by cases e;exact dI rfl⟩|_=>first|exact f.elim|exact⟨λe=>EX e,λe=>by cases e⟩
  |str r=>clear hq;induction u using Mine.Internal.V.casesOn with|str t=>exact⟨λe=>aY V.str<|vt<|eq_of_beq e,λe=>by cases e;exact beq_self_eq_true _⟩|_=>first|exact f.elim|exact⟨λe=>EX e,λe=>by cases e⟩
  |tup z=>clear hq;induction u using Mine.Internal.V.casesOn with|tup ys=>exact aA I λk e E=>aA f λk' e' hy=>(all k e z E ys hy).trans (V.tup.injEq z ys).symm.to_iff|_=>first|exact f.elim|exact⟨λe=>EX e,λe=>by cases e⟩
  |lst z=>clear hq;induction u using Mine.Internal.V.casesOn with|lst ys=>exact aA I λk e E=>aA f λk' e' hy=>(all k e z E ys hy).trans (V.lst.injEq z ys).symm.to_iff|_=>first|exact f.elim|exact⟨λe=>EX e,λe=>by cases e⟩
  |_=>exact I.elim
variable{al:Hc}{N:GI}{aD:EI->EQ->Prop}{r:EQ}
theorem lF(hp:bs x):SeqAt.shaped (pd x)=true:=by refine aN (j_ 9 hp) λJ L=>?_;unfold SeqAt.shaped;rw[J,NV,decide_eq_true_eq];exact aB 0x3b410140a2520 rfl L
theorem vu(hu:N.units+64<Gz)(j:Rep A r.heap Z va d)(b:Rep A r.heap Z D p)(ha:bs d)(hb:bs p)(o:∀c,(c=Do↔d=p)->C (.bool c) r):Ey (EE al A) N (Ll .Eq va D) C aD r:=by refine ax (hD 9 ha j) λas r1=>ax (hD 9 hb b) λf r2=>eq_dataH r1 r2 (lF ha) (lF hb) hu<|o _<|lE 9 ha hb
theorem vv(hu:N.units+64<Gz)(j:Rep A r.heap Z va d)(b:Rep A r.heap Z D p)(ha:bs d)(hb:bs p)(o:∀c,(c=Do↔d≠p)->C (.bool c) r):Ey (EE al A) N (Ll .NotEq va D) C aD r:=by refine ax (hD 9 ha j) λas r1=>ax (hD 9 hb b) λf r2=>ne_dataH r1 r2 (lF ha) (lF hb) hu<|o _ ?_;have:=lE 9 ha hb;rw[Iw,<-OU,this]
theorem vw(hu:N.units+l<Gz)(j:Rep A r.heap Z va d)(b:Rep A r.heap Z D p)(ha:PureN l d)(hb:PureN y p)(o:∀c,(c=Do↔d=p)->C c r):Ey (EE al A) N (eqBool va D) C aD r:=by refine ax (hD l ha j) λas r1=>ax (hD y hb b) λf r2=>aN (j_ l ha) λJ L=>SeqAt.eqAt_reads _ _ N r va D as f r1 r2 J (j_ y hb).1 (by have:=ME (pd d).depth (pd p).depth;exact gD 0x1ded44e81060a047513820 rfl hu L) al A aD C<|o _<|lE l ha hb
end
section
variable{aw:Model}{N:GI}{aD:EI->EQ->Prop}{r:EQ}{α β:Type}{c:Prop}[Decidable c]{t e:J2 α}{w:α->J2 β}{C:α->EQ->Prop}{y:β->EQ->Prop}
theorem cP(h:¬c)(k:Ey aw N e C aD r):Ey aw N (if c then t else e) C aD r:=aC h▸k
theorem ie(h:c)(k:Ey aw N t C aD r):Ey aw N (if c then t else e) C aD r:=aF h▸k
theorem qV(h:¬c)(k:Ey aw N (e>>=w) y aD r):Ey aw N ((if c then t else e)>>=w) y aD r:=aC h▸k
end
section
variable{aw:Model}{N:GI}{aD:EI->EQ->Prop}{r s':EQ}{α β:Type}{y:J2 α}{v:α}{w:α->J2 β}{C:β->EQ->Prop}
theorem bnd(h:∀P,P v s'->Ey aw N y P aD r)(k:Ey aw N (w v) C aD s'):Ey aw N (y>>=w) C aD r:=s0<|h _ k
theorem cb(k:Ey aw N (w v) C aD r):Ey aw N (pure v>>=w) C aD r:=s0<|tk k
end
theorem KeyIn.pure:∀{l}{x},KeyIn l x->PureN l x:=by intro l;induction l with
 |zero=>intro x h;cases h with|int=>exact .int _ _|str _ _ h=>exact .str _ _ h
 |succ l ih=>intro x h;cases h with|int=>exact .int _ _|str _ _ h=>exact .str _ _ h|tup _ z E=>exact .tup _ _ λx y=>ih<|E x y
section
theorem vx{A:F7}{x:V}{o:List V}:h8 A (x::o)=a8 A x::h8 A o:=rfl
theorem vy{x:V}{o:List V}:h_ (x::o)=h9 x+h_ o:=rfl
variable{Z Z':EZ->Prop}
theorem ka{P:V->EI->Prop}{l:Nat}{x:V}{v:EI}(X:KeyIn l x)(o:Rep A h Z v x)(int:∀i t,P (.int i)<|.int i t)(str:∀r t,P (.str r)<|.str ⟨r.toArray⟩ t)(tup:∀y z d Y k,l=y+1->h.get? d=j' (FF "tuple" Y.toArray k)->Z d->(∀x∈z,KeyIn y x)->Reps A h Z Y z->P (.tup z) (.ref d)):P x v:=by induction X with|int=>cases o;exact int _ _|str=>cases o;exact str _ _|tup y z E=>refine o.di λd Y k M g q=>tup y z d Y k rfl g M E q
theorem lG{P:Nat->V->EI->Prop}(int:∀l i t,P l (.int i)<|.int i t)(str:∀l r t,P l (.str r)<|.str ⟨r.toArray⟩ t)(tup:∀l z d Y k,h.get? d=j' (FF "tuple" Y.toArray k)->Z d->(∀x∈z,KeyIn l x)->Reps A h Z Y z->(∀x∈z,∀v,Rep A h Z v x->P l x v)->P (l+1) (.tup z) (.ref d)):∀l{x},KeyIn l x->∀{v},Rep A h Z v x->P l x v:=by intro l;induction l with|zero=>exactλX p o=>ka X o (int 0) (str 0) λy p p p p e=>nomatch e|succ l ih=>intro x X v o;exact ka X o (int _) (str _) λy z d Y k e g M E q=>by cases e;exact tup l z d Y k g M E q λx y v o=>ih (E x y) o
theorem Reps.one{P:List EI->List V->Prop}{Y:List EI}{x:V}{z:List V}(o:Reps A h Z Y<|x::z)(k:∀v Y,Rep A h Z v x->Reps A h Z Y z->P (v::Y) (x::z)):P Y<|x::z:=by refine o.b7 λd d r1 r2=>k _ _ r1 r2
theorem Reps.zero{P:List EI->Prop}{Y:List EI}(o:Reps A h Z Y [])(k:P []):P Y:=by cases o;exact k
theorem Reps.each:∀{z}{Y},(∀x∈z,∀v,Rep A h Z v x->Rep A h' Z' v x)->Reps A h Z Y z->Reps A h' Z' Y z:=by intro z;induction z with|nil=>exactλd o=>o.zero (P:=λY=>Reps A h' Z' Y []) .nil|cons x z ih=>exactλw o=>o.one (P:=λY z=>Reps A h' Z' Y z) λv Y r1 r2=>.cons (w x (.head _) v r1)<|ih (λu hy=>w u<|.tail _ hy) r2
theorem nG(l:Nat)(X:KeyIn l x)(hh:∀d Y k,h.get? d=j' (FF "tuple" Y k)->h'.get? d=j' (FF "tuple" Y k)){v:EI}(o:Rep A h Z v x):Rep A h' Z v x:=lG (P:=λp x v=>Rep A h' Z v x) (λp p p=>.int _ _) (λp p p=>.str _ _) (λl z d Y k g M p q ih=>.tup d Y k z M (hh _ _ _ g)<|q.each ih) l X o
theorem vz(l:Nat)(X:KeyIn l x)(am:KeyIn y u){v:EI}(o:Rep A h Z v x)(r':Rep A h Z' v u):x=u:=by
 refine lG (P:=λp x v=>∀y u,KeyIn y u->Rep A h Z' v u->x=u) (λp i t y u X o=>?_) (λp r t y u X o=>?_) (λl z d Y k g M E q ih y u X o=>?_) l X o y u am r';.refine ka (P:=λu v=>v=.int i t->.int i=u) X o (λa t' e=>?_) (λr t' e=>nomatch e) (λp p p p p p p p p p e=>nomatch e) rfl;injection e with e;rw[e]
 .refine ka (P:=λu v=>v=.str ⟨r.toArray⟩ t->.str r=u) X o (λp p e=>nomatch e) (λs' t' e=>?_) (λp p p p p p p p p p e=>nomatch e) rfl;injection e with e;injection e with e;exact aY V.str<|by simpa using e.symm
 .refine ka (P:=λu v=>v=.ref d->.tup z=u) X o (λp p e=>nomatch e) (λp p e=>nomatch e) (λy ys Q J k' p g' p hy q' e=>?_) rfl;injection e with e;rw[e,g]at g';have e:Y=J:=by have:=aY Obj.data<|EA g';simpa using(Data.seq.inj this).1
  rw[<-e]at q';refine aY V.tup ?_;clear g g' e X o M E;induction z generalizing Y ys with|nil=>exact q.zero (P:=λY=>Reps A h Z' Y ys->[]=ys) λq'=>by cases q';rfl q'|cons x z j=>revert q';refine q.one (P:=λY z=>Reps A h Z' Y ys->z=ys) λv Y r1 r2 q'=>?_;cases q' with|cons ae s2=>rw[ih x (.head _) v r1 y _ (hy _<|.head _) ae,j _ r2 (λx E=>ih x<|.tail _ E) _ (λu hm=>hy u<|.tail _ hm) s2]
end
section
variable{r:EQ}{Z:EZ->Prop}
theorem lH(g:r.heap.get? d=j' (FF "tuple" Y l)):r.TypeIs (.ref d) "tuple":=⟨_,g,rfl⟩
inductive HI(w:World)(s:Shared)(Z:Addr->Prop)(xs:List V)(rest:List Value)(b:Array Int)(s':Shared):Prop|mk(left:List V):(∀x∈left,x∈xs)->Reps w s.heap Z rest left->b.toList++h8 w left=h8 w xs->s'={s with toks:=s'.toks}->s'.toks+h_ left=s.toks+h_ xs->HI w s Z xs rest b s'
theorem qW(l:Nat)(X:KeyIn l x){C:Int->EQ->Prop}(hu:N.units+l<Gz)(o:Rep A r.heap Z v x)(h:C (a8 A x) {r with toks:=r.toks+h9 x}):Ey (EE al A) N (pyHash v) C aD r:=by
 suffices H:∀h l{x},KeyIn l x->∀{v},Rep A h Z v x->∀N aD r C,N.units+l<Gz->r.heap=h->C (a8 A x) {r with toks:=r.toks+h9 x}->Ey (EE al A) N (pyHash v) C aD r from H r.heap l X o N aD r C hu rfl h;intro hp;refine lG (P:=λl x v=>∀N aD r C,N.units+l<Gz->r.heap=hp->C (a8 A x) {r with toks:=r.toks+h9 x}->Ey (EE al A) N (pyHash v) C aD r) (λc c c N aD r C c c h=>wpAny_pyHash_int h) (λc c c N aD r C c c h=>wpAny_pyHash_str h) λl z d Y k g M E q ih N aD r C hu e h=>?_;subst e;show Ey _ _ (pyHashByItsType<|.ref d) C aD r;refine pyHash_slot (lH g) F.slot_tuple_hash F.entry_tuple_hash (F.args_tuple_hash_1 _) (beq_builtin_none _) (.inr<|aT 0xed440a89ce0a420 rfl hu) ?_;show Ey _ _ (LG (.ref d)>>=_) _ _ r;refine bnd (λc k=>wpAny_tupleItemsOf g rfl k)<|s0 ?_;rw[<-JK];refine Jq _ (HI A r Z z) _ ?_ ?_ _ _ ⟨z,λx y=>y,q,by rfl,rfl,rfl⟩;.intro v w p s' s;rcases s with⟨left,hl,O,hb,hs,ht⟩;cases O with|@cons _ x _ a r1 r2=>refine bnd (λc k=>ih x (hl x<|.head _) v r1 _ _ s' _ (by show N.units+1+l<Gz;exact aT 0x1da89c170520a89ce0a420 rfl hu) (by rw[hs]) k) ?_;have fin:HI A r Z z w (p.push<|a8 A x) {s' with toks:=s'.toks+h9 x}:=⟨a,λu hy=>hl u<|.tail _ hy,r2,by rw[<-hb,vx];simp,by rw[hs],by rw[<-ht,vy];exact aT 0x59ce1040e13820 rfl⟩;first|exact tk fin|exact cb<|tk fin
 .intro p s' s;rcases s with⟨left,hl,O,hb,hs,ht⟩;clear hl;cases O;rw[show h8 A []=[]from rfl,FR]at hb;rw[show h_ []=0 from rfl,Nat.add_zero]at ht;show Ey _ _ (retInt<|L7 p.toList) _ _ _;rw[hb];refine bnd (λc k=>wpAny_mkInt k)<|tk ⟨_,_,rfl,?_⟩;rw[hs];show C _ {r with toks:=s'.toks+1};rw[ht];exact h
theorem vA(l:Nat)(X:KeyIn l x){C:Bool->EQ->Prop}(hd:l<=G)(o:Rep A r.heap Z v x)(h:C Do r):Ey (EE al A) N (eqIsQuiet G v) C aD r:=by
 refine lG (P:=λl x v=>∀G C,l<=G->C Do r->Ey (EE al A) N (eqIsQuiet G v) C aD r) (λp p p G C p h=>by rw[eqIsQuiet_byValue _ rfl];exact tk h) (λp p p G C p h=>by rw[eqIsQuiet_byValue _ rfl];exact tk h) (λl z d Y k g M E q ih G C hd h=>?_) l X o G C hd h;obtain⟨G,rfl⟩:∃H,G=H+1:=⟨G-1,aE 0xed9c14bc290868170520 rfl hd⟩;unfold eqIsQuiet;have hT:=lH g;refine bnd (λp k=>I2 hT F.slot_tuple_eq.lookup k) ?_;show Ey _ _ (isInstance (.ref d) (.type "tuple")>>=_) _ _ r;refine bnd (λp k=>Jr hT isSubtype_tuple_tuple k) ?_;dsimp only[Bool.not_true,Fh,if_false];refine bnd (λp k=>JX g rfl k)<|s0 ?_;show Ey _ _ (forIn Y.toArray _ _) _ _ r;rw[<-JK];refine Jq _ (λw o s'=>o.1=none/\s'=r/\∃left,(∀x∈left,x∈z)/\Reps A r.heap Z w left) _ ?_ ?_ _ _ ⟨rfl,rfl,z,λp y=>y,q⟩;.intro v w o s' s;refine aZ s λO z2 z3=>aA z3 λleft hl hq=>?_;clear s;replace z2:=z2.symm;subst z2;cases hq with|cons r1 r2=>refine bnd (λp k=>ih _ (hl _<|.head _) v r1 G _ (J' hd) k) ?_;refine cP dd ?_;exact tk ⟨rfl,rfl,_,λu hy=>hl u<|.tail _ hy,r2⟩
 .intro s s' z2;refine aZ z2 λO z3 p=>?_;clear z2;rcases s with⟨r1,r2⟩;replace z3:=z3.symm;subst z3;have O:r1=none:=O;exact O▸tk h
end
def aO(al:Hc)(A:F7):HeapKind al A V where
 is:=λh k d=>Rep A h (λw=>True) (.ref d) k/\gF k
 hash:=a8 A
 draws:=h9
 room:=λN=>N.units+20<Gz
 inj:=λE hy=>vz 6 E.2.2 hy.2.2 E.1 hy.1
 keeps:=λ{h h' k d G D f ep}x ho hd hs=>⟨nG 6 x.2.2 (λp Y l g=>(hs.2 p λe=>by subst e;rw[g]at ho;obtain rfl:=EA ho;cases hd).trans g) x.1,x.2⟩
 pyHash:=λhu X h=>qW 6 X.2.2 (aE 0x1da85c6482a175120 rfl hu) X.1 h
 eqBool:=λ{N aD r x u d p C}hu E hy h=>vw (l:=6) (aE 0x1da85c6482a175120 rfl hu) E.1 hy.1 E.2.2.pure hy.2.2.pure λc hc=>by
  have:c=decide (x=u):=by rw[Ij,hc,decide_eq_true_eq]
  exact this▸h
 quiet:=λX h=>vA 6 X.2.2 (zc 0x14424c9 [] rfl) X.1 h
def aI(i:Nat):PySem.Str:=Et<|bU.getD i ""
structure a_ where
 prog:Program
 w:World
 K:Frag
 B:Heap
 mg:PySem.Str->Option Value
 mb:PySem.Str->Option Value
 X:K.In B
 g:B.Ns mainGlobals mg
 b:B.Ns builtinsNs mb
 nolimit:B.NoLimit
 sys:∃o,B.get? sysModules=some o
 builtins:∀x:PySem.Str,x≠"__name__"->mb x=bootBuiltins x
 cls:Nat->Addr
 fa:Nat->Addr
abbrev aQ:EI->EQ->Prop:=λd d=>False
noncomputable def c_(A:F7)(h:F6)(Z:EZ->Prop):List FX->List (Nat×V)->Prop|[],[]=>True|e::ds,(l,x)::fs=>(∃t,e.key=.str (aI l) t)/\Rep A h Z e.val x/\c_ A h Z ds fs|_,_=>False
noncomputable abbrev bb(ds:List FX)(l:Nat):Obj:={cls:=.type "dict",data:=.dict ds.toArray l}
def gH(n:a_)(h:F6)(Z:EZ->Prop)(H:Hp)(d:EZ):c2->Prop|.list z=>∃Y l,h.get? d=j' (FF "list" Y.toArray l)/\Reps n.w h Z Y z|.dict f=>∃ds l,h.get? d=j' (bb ds l)/\RepE n.w h Z ds f/\cZ f/\(d==HB)=EF|.inst c dx fs=>h.get? d=j' (JY (n.cls c) dx)/\H dx=j' .b9/\(∃ds l,h.get? dx=j' (bb ds l)/\c_ n.w h Z ds fs)/\(∀w∈fs,w.1∈eE)/\c<6/\∀p c' a,H p=j' (.inst c' dx a)->p=d|.b9=>(h.get? d).isSome=Do
structure Inv(C:a_)(h:Heap)(Z:Addr->Prop)(H:Hp):Prop where
 base:∀b o,C.B.get? b=some o->h.get? b=some o
 d6:∀a,Z a->∃o,h.get? a=some o
 zb:∀a o,C.B.get? a=some o->Z a
 hz:∀a,H a≠.none->¬Z a
 obj:∀a o,H a=some o->gH C h Z H a o
structure Post(s:Shared)(Z:Addr->Prop)(H:Hp)(s':Shared)(Z':Addr->Prop)(H':Hp):Prop where
 gens:s'.gens=s.gens
 os:s'.os=s.os
 keep:∀a o,s.heap.get? a=some o->H a=.none->s'.heap.get? a=some o
 b0:∀a,Z a->Z' a
 bz:∀a,Z' a->Z a\/H a≠.none\/s.heap.get? a=.none
 bl:∀a,H' a≠.none->H a≠.none\/s.heap.get? a=.none
 alive:∀a o,s.heap.get? a=some o->∃o',s'.heap.get? a=some o'
theorem Post.refl(r:EQ)(Z:EZ->Prop)(H:Hp):Post r Z H r Z H:=⟨rfl,rfl,λd d e d=>e,λd h=>h,λd h=>.inl h,λd h=>.inl h,λd D e=>⟨D,e⟩⟩
section
variable{r ae s2:EQ}{Z as Z2:EZ->Prop}{H aq H2:Hp}
theorem qX(X:∀d D,r.heap.get? d=j' D->H d=kf->ae.heap.get? d=j' D)(h:ae.heap.get? d=kf):H d≠kf\/r.heap.get? d=.none:=by cases e:r.heap.get? d with|none=>exact .inr rfl|some D=>exact .inl λhn=>by rw[X d D e hn]at h;exact aP h.symm
theorem Post.trans(j:Post r Z H ae as aq)(q:Post ae as aq s2 Z2 H2):Post r Z H s2 Z2 H2 where
 gens:=q.gens.trans j.gens
 os:=q.os.trans j.os
 keep:=λd D e hn=>q.keep d D (j.keep d D e hn)<|by cases J:aq d with|none=>rfl|some x=>
   refine(j.bl d<|by rw[J];simp).elim (λh=>?_) λh=>?_;.exact aJ hn h
   .rw[h]at e;exact aP e
 b0:=λd h=>q.b0 d<|j.b0 d h
 bz:=λd h=>by
  rcases q.bz d h with h|h|h;.exact j.bz d h
  .exact .inr<|j.bl d h
  .exact .inr<|qX j.keep h
 bl:=λd h=>by
  refine(q.bl d h).elim (λh=>?_) λh=>?_;.exact j.bl d h
  .exact qX j.keep h
 alive:=λd D e=>by refine ax (j.alive d D e) λo1 e1=>?_;exact q.alive d o1 e1
theorem Inv.alive(I:Inv n r.heap Z H)(h:H d≠kf):∃D,r.heap.get? d=j' D:=by cases e:H d with|none=>exact aJ e h|some x=>have:=I.obj d x e;induction x with|list z=>refine bn this λY l g p=>?_;exact⟨_,g⟩|dict f=>refine bn this λY l g p=>?_;exact⟨_,g⟩|inst c dx fs=>exact⟨_,this.1⟩|b9=>exact FZ.mp this
theorem Inv.zh(I:Inv n r.heap Z H)(h:Z d):H d=.none:=by cases e:H d with|none=>rfl|some x=>exact aJ h<|I.hz d<|by rw[e];simp
theorem Post.rep(j:Post r Z H ae as aq)(I:Inv n r.heap Z H)(o:Rep n.w r.heap Z v x):Rep n.w ae.heap as v x:=o.mono j.b0 λd D M e=>j.keep d D e<|I.zh M
theorem Post.du(j:Post r Z H ae as aq)(I:Inv n r.heap Z H)(o:Reps n.w r.heap Z v x):Reps n.w ae.heap as v x:=o.mono j.b0 λd D M e=>j.keep d D e<|I.zh M
theorem c_.ind{A:F7}{h:F6}{Z:EZ->Prop}{P:List FX->List (Nat×V)->Prop}(h0:P [] [])(hc:∀e ds k x fs t,e.key=.str (aI k) t->Rep A h Z e.val x->c_ A h Z ds fs->P ds fs->P (e::ds) ((k,x)::fs))(ds:List FX):∀{fs:List<|Nat×V},c_ A h Z ds fs->P ds fs:=by induction ds with
 |nil=>intro fs o;induction fs with|nil=>exact h0|cons=>exact o.elim
 |cons e ds ih=>intro fs o;induction fs with|nil=>exact o.elim|cons w fs=>exact aZ o λM o q=>ax M λt ht=>hc e ds w.1 w.2 fs t ht o q<|ih q
theorem c_.mono(hz:∀d,Z d->Z' d)(X:∀d D,Z d->h.get? d=j' D->h'.get? d=j' D){ds:List FX}{fs:List<|Nat×V}(o:c_ A h Z ds fs):c_ A h' Z' ds fs:=c_.ind (P:=λds fs=>c_ A h' Z' ds fs) trivial (λe ds k x fs t ht o q ih=>⟨⟨t,ht⟩,o.mono hz X,ih⟩) ds o
end
structure Fm(C:a_)(h:Heap)(Z:Addr->Prop)(H:Hp)(env:Env)(sc:List<|PySem.Str×NameKind)(l:aL):Prop where
 kind:env.scope.kind=.function
 names:env.scope.names=sc
 globals:env.globals=mainGlobals
 builtins:env.builtins=builtinsNs
 ns:∃m,h.Ns env.locals m/\∀i v,l i=some v->sc.lookup (aI i)=some .local->∃va,m (aI i)=some va/\Rep C.w h Z va v
 cell:∀i v,l i=some v->sc.lookup (aI i)=some .cell->∃c va,env.cells.lookup (aI i)=some c/\h.IsCell c (some va)/\Rep C.w h Z va v
 bc:∀x,sc.lookup x=some .cell->∃c v,env.cells.lookup x=some c/\h.IsCell c v
 low:∀i v,l i=some v->i<bU.length
 lz:¬Z env.locals
 lh:H env.locals=.none
 cz:∀n c,env.cells.lookup n=some c->¬Z c/\H c=.none/\c≠env.locals/\∃o,h.get? c=some o
 apart:∀n n' c,env.cells.lookup n=some c->env.cells.lookup n'=some c->n=n'
theorem Fm.kd(F:Fm n h Z H aa sc m):aa.kindOf k=sc.lookup k:=F.names▸rfl
section
variable{m:aL}
theorem Fm.post(F:Fm n r.heap Z H aa sc m)(I:Inv n r.heap Z H)(j:Post r Z H ae as aq):Fm n ae.heap as aq aa sc m:=by
 refine aA F.ns λy hn hm=>?_;have hL:∃D,r.heap.get? aa.locals=j' D:=by refine fJ hn λD p p ho p=>?_;exact⟨D,ho⟩
 have q:∀l c v,aa.cells.lookup l=j' c->r.heap.IsCell c v->ae.heap.IsCell c v:=λl c v e⟨D,ho,hd⟩=>⟨D,j.keep c D ho (F.cz l c e).2.1,hd⟩;have s:∀d,(∃D,r.heap.get? d=j' D)->H d=kf->aq d=.none:=λd a hn=>by refine ax a λD ha=>?_;cases e:aq d with|none=>rfl|some x=>
   refine(j.bl d<|by rw[e];simp).elim (λh=>?_) λh=>?_;.exact aJ hn h
   .rw[h]at ha;exact aP ha
 have u:∀d,(∃D,r.heap.get? d=j' D)->H d=kf->¬Z d->¬as d:=λd a hn hz h=>by
  refine ax a λD ha=>?_;rcases j.bz d h with h|h|h;.exact hz h
  .exact h hn
  .rw[h]at ha;exact aP ha
 refine⟨F.kind,F.names,F.globals,F.builtins,⟨y,?_,λi v e k=>?_⟩,λi v e k=>?_,λx e=>?_,F.low,u _ hL F.lh F.lz,s _ hL F.lh,λl c e=>?_,F.apart⟩;.refine fJ hn λD f ep ho o=>i_ D f ep (j.keep _ _ ho F.lh) o
 .refine aA (hm i v e k) λva J L=>?_;exact bm va J<|j.rep I L
 .refine cM (F.cell i v e k) λc va J L b=>?_;exact dZ c va J (q _ _ _ J L)<|j.rep I b
 .refine bn (F.bc x e) λc v J L=>?_;exact dR c v J<|q _ _ _ J L
 .refine bM (F.cz l c e) λJ L b h4=>⟨u c h4 L J,s c h4 L,b,by refine ax h4 λD ho=>?_;exact⟨D,j.keep c D ho L⟩⟩
end
def ih(G:Nat)(N:GI):Prop:=N.depth+4*G+4<=990/\N.units+100*G+200<=9800/\N.handled=kf
def bQ(G:Nat)(N:GI):Prop:=N.depth+4*G+6<=990/\N.units+100*G+260<=9800/\N.handled=kf
theorem bQ.u(o:bQ G N):N.units+100<cLine:=by have:=o.2.1;have e:Gz=9900:=rfl;exact e▸aE 0x1daa6ac1adc3228144c9035b9045398119140 rfl this
theorem ih.i7(o:ih G N):N.depth<recursionLimit:=by have:=o.1;have e:recursionLimit=1000:=rfl;exact e▸aE 0x76bf42814f794e225cc09120 rfl this
theorem ih.deeper(o:ih (G+1) N)(aa:IC):bQ G<|N.deeper aa:=by refine aZ o λJ L b=>⟨by show N.depth+1+4*G+6<=990;exact aE 0x1da7bca7192e6048970520a7bca7112e6382909120 rfl J,by show N.units+3+100*G+260<=9800;exact aE 0x1da26481adc8229cc08c8a70d20a26481adc6429cc7052119140 rfl L,b⟩
theorem bQ.call(o:bQ G N):ih G N:=by refine aZ o λJ L b=>⟨aE 0x769ef29c44b98122414f794e325cc09120 rfl J,aE 0x76899206b7190a73023228144c9035b9045398119140 rfl L,b⟩
theorem bQ.make(o:bQ G N)(hw:c.weight<=2)(hu:c.cUnits<=60):ih G<|N.under c:=by refine aZ o λJ L b=>⟨by show N.depth+c.weight+4*G+4<=990;exact aT 0x3bda7bca7112e6088970034f794e325cc11121a0920 rfl hw J,by show N.units+c.cUnits+100*G+200<=9800;exact aT 0x77b44c9035b8c8539821914e006899206b7208a73043228340f140 rfl hu L,b⟩
inductive Res(C:a_){α β:Type}(R:Heap->(Addr->Prop)->α->β->Prop)(s:Shared)(Z:Addr->Prop)(H:Hp)(Q:β->Hp->Prop)(v:α)(s':Shared):Prop|mk(Z':Addr->Prop)(H':Hp)(x:β):Post s Z H s' Z' H'->Inv C s'.heap Z' H'->R s'.heap Z' v x->Q x H'->Res C R s Z H Q v s'
abbrev RV(n:a_):F6->(EZ->Prop)->EI->V->Prop:=λh Z v x=>Rep n.w h Z v x
abbrev vB(n:a_):F6->(EZ->Prop)->List EI->List V->Prop:=λh Z v x=>Reps n.w h Z v x
abbrev RE:F6->(EZ->Prop)->α->α->Prop:=λd d v x=>v=x
section
variable{C:β->Hp->Prop}
theorem Res.up(j:Post r Z H ae as aq)(o:Res n R ae as aq C v s2):Res n R r Z H C v s2:=by obtain⟨Z2,H2,x,p2,S,J,L⟩:=o;exact⟨Z2,H2,x,j.trans p2,S,J,L⟩
theorem eG(j:Post r Z H ae as aq)(h:Ey (EE n.prog n.w) N t (Res n R ae as aq C) aQ ae):Ey (EE n.prog n.w) N t (Res n R r Z H C) aQ ae:=EK h (λd d o=>o.up j) λd d x=>x
theorem Post.toks(r:EQ)(Z:EZ->Prop)(H:Hp)(t:Nat):Post r Z H {r with toks:=t} Z H:=⟨rfl,rfl,λd d e d=>e,λd h=>h,λd h=>.inl h,λd h=>.inl h,λd D e=>⟨D,e⟩⟩
theorem eT(I:Inv n r.heap Z H)(o:R r.heap Z v x)(q:C x H):Res n R r Z H C v {r with toks:=t}:=⟨Z,H,x,Post.toks r Z H t,I,o,q⟩
theorem cQ(I:Inv n r.heap Z H)(o:R r.heap Z v x)(q:C x H):Res n R r Z H C v r:=⟨Z,H,x,Post.refl r Z H,I,o,q⟩
end
def aK(n:a_)(sc:List<|EJ×Fv)(G:Nat)(e:Ff)(W:aL->Hp->(V->Hp->Prop)->Prop):Prop:=∀{aa}{N}{r}{Z}{H}{m}{C},bQ G N->Inv n r.heap Z H->Fm n r.heap Z H aa sc m->W m H C->Ey (EE n.prog n.w) N (Hb e aa) (Res n (RV n) r Z H C) aQ r
def dE(n:a_)(sc:List<|EJ×Fv)(G:Nat)(e:Ff)(W:aL->Hp->(Bool->Hp->Prop)->Prop):Prop:=∀{aa}{N}{r}{Z}{H}{m}{C},bQ G N->Inv n r.heap Z H->Fm n r.heap Z H aa sc m->W m H C->Ey (EE n.prog n.w) N (Od e aa<|Hb e aa) (Res n RE r Z H C) aQ r
section
variable{G:Nat}
noncomputable def qY:V->Option Const|.none=>j' .none|.bool p=>j'<|.bool p|.int i=>j'<|.int i|.str r=>j'<|.str ⟨r.toArray⟩|_=>kf
theorem vC(hc:qY c=j' k):aK n sc G (.Constant k l ar) λd H C=>C c H:=by intro aa N r Z H m C O I F h;rw[eval_Constant];induction c using Mine.Internal.V.casesOn with|none=>exact EA hc▸tk (cQ I .none h)|bool p=>exact EA hc▸tk (cQ I (.bool p) h)|int i=>exact EA hc▸wpAny_mkInt (eT I (.int i _) h)|str r=>exact EA hc▸wpAny_mkText (eT I (.str r _) h)|_=>exact aP hc
theorem qZ(i:Nat):(aI i==("__debug__":EJ))=false:=by
 by_cases h:i<bU.length
 .have:∀i,i<bU.length->(aI i==("__debug__":EJ))=false:=by decide+kernel
  exact this i h
 .unfold aI;rw[E9,Hd<|Nat.le_of_not_lt h];decide+kernel
theorem q0(X:sc.lookup (aI i)=j' .local\/sc.lookup (aI i)=j' .cell):aK n sc G (.Name (aI i) ar) λm H C=>av (m i) λv=>C v H:=by intro aa N r Z H m C O I F h;cases hl:m i with|none=>rw[hl]at h;exact h.elim|some v=>
  rw[hl]at h;refine wpAny_Name ?_<|qZ i;rcases X with X|X;.refine aA F.ns λy hn hm=>aA (hm i v hl X) λva J L=>wpAny_loadName_local F.kind (F.kd.trans X) hn J<|cQ I L h
  .refine cM (F.cell i v hl X) λc va J L b=>wpAny_loadName_cell F.kind (F.kd.trans X) J L<|cQ I b h
end
theorem vD:∀(ns:List EJ)(z:List EI),ns.length=z.length->∀l∈ns,((ns.zip z).lookup l).isSome=true:=by intro ns;induction ns with|nil=>intro z _ l hn;exact(Ez hn).elim|cons x ns ih=>intro z hl l hn;induction z with|nil=>cases hl|cons v z=>rw[Hf,Fw];cases e:l==x with|true=>rfl|false=>
    rcases EG.mp hn with rfl|hn;.rw[beq_self_eq_true]at e;exact EX e
    .exact ih z (Hw hl) l hn
theorem q1:∀{m:List α},(∀x∈m,w x=g x)->m.filterMap w=m.filterMap g:=by intro v;induction v with|nil=>intro g1;exact rfl|cons x o ih=>intro h;rw[IR,IR,h x<|.head _,ih λu hy=>h u<|.tail _ hy]
theorem vE:∀(ns:List EJ)(z:List EI),ns.length=z.length->ns.Nodup->(ns.filterMap λl=>((ns.zip z).lookup l).map (l,·))=ns.zip z:=by intro ns;induction ns with|nil=>intro z _ _;rfl|cons x ns ih=>intro z hl hn;induction z with|nil=>cases hl|cons v z=>
   rw[FH]at hn;rw[IR];simp only[Hf,Fw,beq_self_eq_true,I5];congr 1;refine Eq.trans ?_<|ih z (by simpa using hl) hn.2;refine q1 λl hm=>?_;have:(l==x)=false:=by cases e:l==x with|false=>rfl|true=>exact aJ (beq_iff_eq.mp e▸hm) hn.1
   rw[this]
theorem vF(hp:a.params={posonlyargs:=[],args:=args,vararg:=kf,kwonlyargs:=[],kw_defaults:=[],kwarg:=kf,defaults:=[]})(ad:args.map (·.arg)=ns)(hd:a.defaults=.none)(hl:ns.length=z.length)(av:ns.Nodup):bindArgs a ⟨z,[]⟩=pure (ns.zip z):=by
 have L:List.filter (λl=>(OO l<|ns.zip z).isNone) ns=[]:=by rw[MU];intro l hn;refine ax (FZ.mp<|vD ns z hl l hn) λv hv=>hv.symm▸E2
 have b:(ns.take<|ns.length-(([]:List EI).drop<|0-ns.length).length).filter (λl=>(OO l<|ns.zip z).isNone)=[]:=by rw[LD,Ik,Nat.sub_zero,Kn];exact L
 induction a;subst hp;subst hd;clear L;subst ad;refine(aC λh=>?_).trans<|(aC λh=>?_).trans ?_;.have h:(decide (z.length>(args.map (·.arg)).length)&&Do)=true:=h;rw[Bool.and_true,decide_eq_true_eq,hl]at h;exact GN _ h
 .have h:(!(((args.map (·.arg)).take<|(args.map (·.arg)).length-(([]:List EI).drop<|0-(args.map (·.arg)).length).length).filter λl=>(OO l<|(args.map (·.arg)).zip z).isNone).isEmpty)=true:=h;rw[b]at h;exact EX h
 .have e:((args.map (·.arg)).drop<|(args.map (·.arg)).length-(([]:List EI).drop<|0-(args.map (·.arg)).length).length).zip (([]:List EI).drop<|0-(args.map (·.arg)).length)=[]:=by rw[LD,List.zip_nil_right]
  refine Eq.trans (aY (λm=>forIn m _ _>>=_) e) ?_;exact aY (pure (f:=J2))<|(aY (List.filterMap _)<|FR _).trans<|vE _ z hl av
theorem q2{IH:EJ->Option Fv}{l:EJ}{v:EI}{o:List<|EJ×EI}{y:EJ->Option EI}:MV IH ((l,v)::o) y=MV IH o (if IH l=j' .local thenλu=>if u=l then j' v else y u else y):=rfl
theorem q3{IH:EJ->Option Fv}{l:EJ}{v:EI}{o:List<|EJ×EI}{y:EJ->Option EI}:MW IH ((l,v)::o) y=MW IH o (if IH l=j' .local then y elseλu=>if u=l then j' v else y u):=rfl
theorem q4{i a:Nat}{o:List Nat}{v:V}{Y:List V}:Mine.Internal.fo (i::o) (v::Y) a=if a=i then j' v else Mine.Internal.fo o Y a:=rfl
theorem vG{l:Nat}{u:EJ}{k:Fv}{o:List<|EJ×Fv}{ao:List<|EJ×EZ}:Lm l ((u,k)::o) ao=if k==.cell then Lm (l+1) o ((u,l)::ao)else Lm l o ao:=rfl
theorem vH{IH:EJ->Option Fv}:∀(ns:List EJ)(z:List EI)(y:EJ->Option EI),ns.Nodup->∀x,IH x=j' .local->∀v,(ns.zip z).lookup x=j' v->MV IH (ns.zip z) y x=j' v:=by
 have keep:∀f y(x:EJ),(∀p∈f,p.1≠x)->MV IH f y x=y x:=by intro f;induction f with|nil=>intro y x _;rfl|cons p f ih=>
   intro y x hb;obtain⟨l,v⟩:=p;rw[q2];rw[ih _ _ λc hc=>hb c<|.tail _ hc];split;.exact aC λe=>hb _ (.head _) e.symm
   .rfl
 intro ns;induction ns with|nil=>intro z y _ x _ v h;simp at h|cons l ns ih=>intro z y av x E v h;induction z using JL with|nil=>simp at h|cons A z=>rw[FH]at av;rw[Hf,Fw]at h;rw[Hf];rw[q2];cases e:x==l with|true=>rw[e]at h;obtain rfl:=EA h;obtain rfl:=beq_iff_eq.mp e;rw[keep _ _ _ λp hb e=>av.1<|by rw[<-e];exact(JD (a:=p.1) (b:=p.2) hb).1,aF E,aF rfl]|false=>rw[e]at h;exact ih z _ av.2 x E v h
theorem vI{IH:EJ->Option Fv}:∀(ns:List EJ)(z:List EI)(y:EJ->Option EI),ns.Nodup->∀x,IH x≠j' .local->∀v,(ns.zip z).lookup x=j' v->MW IH (ns.zip z) y x=j' v:=by
 have keep:∀f y(x:EJ),(∀p∈f,p.1≠x)->MW IH f y x=y x:=by intro f;induction f with|nil=>intro y x _;rfl|cons p f ih=>
   intro y x hb;obtain⟨l,v⟩:=p;rw[q3];rw[ih _ _ λc hc=>hb c<|.tail _ hc];split;.rfl
   .exact aC λe=>hb _ (.head _) e.symm
 intro ns;induction ns with|nil=>intro z y _ x _ v h;simp at h|cons l ns ih=>intro z y av x E v h;induction z using JL with|nil=>simp at h|cons A z=>rw[FH]at av;rw[Hf,Fw]at h;rw[Hf];rw[q3];cases e:x==l with|true=>rw[e]at h;obtain rfl:=EA h;obtain rfl:=beq_iff_eq.mp e;rw[keep _ _ _ λp hb e=>av.1<|by rw[<-e];exact(JD (a:=p.1) (b:=p.2) hb).1,aC E,aF rfl]|false=>rw[e]at h;exact ih z _ av.2 x E v h
set_option tactic.hygienic true in
theorem q5:∀b z Y,Reps A h Z z Y->b.length=Y.length->(b.map aI).Nodup->∀i v,Mine.Internal.fo b Y i=j' v->∃va,((b.map aI).zip z).lookup (aI i)=j' va/\Rep A h Z va v:=by intro b;induction b with|nil=>intro z Y _ _ _ i v e;exact aP e|cons j b ih=>intro z Y o hl av i v e;cases o with|nil=>cases hl|@cons va x z Y r1 r2=>
   rw[Gq,FH]at av;rw[q4]at e;rw[Gq,Hf,Fw];split at e;.rename_i hi;clear av hl;subst hi;obtain rfl:=EA e;rw[beq_self_eq_true];exact bm va rfl r1
   .rename_i hi;refine aA (ih z Y r2 (Hw hl) av.2 i v e) λa J L=>?_;have K:(aI i==aI j)=false:=by cases q:aI i==aI j with|false=>rfl|true=>exfalso;have:=(JD<|Is J).1;rw[beq_iff_eq.mp q]at this;exact av.1 this
    exact K▸bm a J L
theorem vJ(b:List Nat):∀Y i v,Mine.Internal.fo b Y i=j' v->i∈b:=by induction b with|nil=>exactλY i v h=>aP h|cons j b ih=>intro Y i v h;induction Y using JL with|nil=>exact aP h|cons x Y=>
   rw[q4]at h;by_cases e:i=j;.exact e▸.head _
   .rw[aC e]at h;exact .tail _<|ih Y i v h
def FA(aa:IC)(d:EZ):Prop:=d=aa.locals\/∃l,aa.cells.lookup l=j' d
structure PX(ex:Addr->Prop)(s:Shared)(Z:Addr->Prop)(H:Hp)(s':Shared)(Z':Addr->Prop)(H':Hp):Prop where
 gens:s'.gens=s.gens
 os:s'.os=s.os
 keep:∀a o,s.heap.get? a=some o->H a=.none->¬ex a->s'.heap.get? a=some o
 b0:∀a,Z a->Z' a
 bz:∀a,Z' a->Z a\/H a≠.none\/s.heap.get? a=.none
 bl:∀a,H' a≠.none->H a≠.none\/s.heap.get? a=.none
 alive:∀a o,s.heap.get? a=some o->¬ex a->∃o',s'.heap.get? a=some o'
abbrev eZ(aa:IC):=PX<|FA aa
section
variable{ex a:EZ->Prop}
theorem Post.px(j:Post r Z H ae as aq):PX ex r Z H ae as aq:=⟨j.gens,j.os,λd D e h p=>j.keep d D e h,j.b0,j.bz,j.bl,λd D e p=>j.alive d D e⟩
theorem PX.post(j:PX ex r Z H ae as aq)(h:∀d,ex d->r.heap.get? d=kf):Post r Z H ae as aq:=⟨j.gens,j.os,λd D e hn=>j.keep d D e hn λq=>by rw[h d q]at e;exact aP e,j.b0,j.bz,j.bl,λd D e=>j.alive d D e λq=>by rw[h d q]at e;exact aP e⟩
theorem PX.trans(j:PX ex r Z H ae as aq)(q:PX a ae as aq s2 Z2 H2)(hq:∀d,a d->ex d\/r.heap.get? d=kf)(hz:∀d D,r.heap.get? d=j' D->H d=kf->ex d->Z2 d->Z d)(hh:∀d D,r.heap.get? d=j' D->H d=kf->ex d->H2 d=kf):PX ex r Z H s2 Z2 H2 where
 gens:=q.gens.trans j.gens
 os:=q.os.trans j.os
 keep:=λd D e hn E=>q.keep d D (j.keep d D e hn E) (by cases J:aq d with|none=>rfl|some x=>
   refine(j.bl d<|by rw[J];simp).elim (λh=>?_) λh=>?_;.exact aJ hn h
   .rw[h]at e;exact aP e) λx=>by
    refine(hq d x).elim (λh=>?_) λh=>?_;.exact E h
    .rw[h]at e;exact aP e
 b0:=λd h=>q.b0 d<|j.b0 d h
 bz:=λd h=>by cases e:r.heap.get? d with|none=>exact .inr<|.inr rfl|some D=>cases hn:H d with|some x=>exact .inr<|.inl<|by simp|none=>
    by_cases E:ex d;.exact .inl<|hz d D e hn E h
    .rcases q.bz d h with h|h|h
     .rcases j.bz d h with h|h|h;.exact .inl h
      .exact aJ hn h
      .rw[h]at e;exact aP e
     .refine(j.bl d h).elim (λh=>?_) λh=>?_;.exact aJ hn h
      .rw[h]at e;exact aP e
     .rw[j.keep d D e hn E]at h;exact aP h.symm
 bl:=λd h=>by cases e:r.heap.get? d with|none=>exact .inr rfl|some D=>cases hn:H d with|some x=>exact .inl<|by simp|none=>
    by_cases E:ex d;.exact aJ (hh d D e hn E) h
    .refine(q.bl d h).elim (λh=>?_) λh=>?_
     .refine(j.bl d h).elim (λh=>?_) λh=>?_;.exact aJ hn h
      .rw[h]at e;exact aP e
     .rw[j.keep d D e hn E]at h;exact aP h.symm
 alive:=λd D e E=>by
  refine ax (j.alive d D e E) λo1 e1=>q.alive d o1 e1 λx=>by
   refine(hq d x).elim (λh=>?_) λh=>?_;.exact E h
   .rw[h]at e;exact aP e
theorem Post.en(j:Post r Z H ae as aq)(q:PX ex ae as aq s2 Z2 H2)(h:∀d,ex d->r.heap.get? d=kf):Post r Z H s2 Z2 H2:=j.px (ex:=λp=>False).trans q (λd x=>.inr<|h d x) (λp p p p x=>x.elim) (λp p p p x=>x.elim)|>.post λp x=>x.elim
theorem PX.rep(j:PX ex r Z H ae as aq)(I:Inv n r.heap Z H)(E:∀d,Z d->¬ex d)(o:Rep n.w r.heap Z v x):Rep n.w ae.heap as v x:=o.mono j.b0 λd D M e=>j.keep d D e (I.zh M)<|E d M
theorem PX.du(j:PX ex r Z H ae as aq)(I:Inv n r.heap Z H)(E:∀d,Z d->¬ex d)(o:Reps n.w r.heap Z v x):Reps n.w ae.heap as v x:=o.mono j.b0 λd D M e=>j.keep d D e (I.zh M)<|E d M
end
set_option tactic.hygienic true in
def vK(n:a_)(h:F6)(Z:EZ->Prop):Flow->Fl->Prop|.next,.nx=>True|.ret v,.rt x=>Rep n.w h Z v x|_,_=>False
inductive ResS(C:a_)(env:Env)(sc:List<|PySem.Str×NameKind)(s:Shared)(Z:Addr->Prop)(H:Hp)(Q:Fl->aL->Hp->Prop)(f:Flow)(s':Shared):Prop|mk(Z':Addr->Prop)(H':Hp)(l':aL)(fl:Fl):eZ env s Z H s' Z' H'->Inv C s'.heap Z' H'->Fm C s'.heap Z' H' env sc l'->vK C s'.heap Z' f fl->Q fl l' H'->ResS C env sc s Z H Q f s'
def eU(n:a_)(sc:List<|EJ×Fv)(G:Nat)(p:List K_)(W:aL->Hp->(Fl->aL->Hp->Prop)->Prop):Prop:=∀{aa}{N}{r}{Z}{H}{m}{C},bQ G N->Inv n r.heap Z H->Fm n r.heap Z H aa sc m->W m H C->Ey (EE n.prog n.w) N (execs p aa) (ResS n aa sc r Z H C) aQ r
inductive FnOk(C:a_)(d:Nat)(tab:lC)(cw:CW)(a:Addr)(fn:Fn):Prop|mk(oc:Value)(od:Option Addr)(osl:Array<|Option Value)(name qual:PySem.Str)(args:List PySem.Arg)(body:List Stmt)(scope:Scope)(kV doc pm:Value)(an:Option Addr)(cdv ct:Value)(hK:C.K.lookup a=some ⟨oc,od,.func<|fnOf name qual {posonlyargs:=[],args:=args,vararg:=.none,kwonlyargs:=[],kw_defaults:=[],kwarg:=.none,defaults:=[]} body scope .none kV doc pm an cdv ct,osl⟩)(hns:args.map (·.arg)=fn.params.map aI)(hnd:(fn.params.map aI).Nodup)(hcd:codeIn C.K cdv qual=true)(hsk:scope.kind=.function)(hco:scope.isCoroutine=false)(hgen:scope.isGenerator=false)(hlow:∀i∈fn.params,i<bU.length)(hpar:∀i∈fn.params,scope.names.lookup (aI i)=some .local\/scope.names.lookup (aI i)=some .cell)(hsnd:(scope.names.map (·.1)).Nodup)(hbody:eU C scope.names d body<|aV tab cw fn.body):FnOk C d tab cw a fn
def q6(n:a_)(G:Nat):CW:=λw Y H C=>∀{N}{r}{Z}{z},ih G N->Inv n r.heap Z H->Reps n.w r.heap Z z Y->Hl (EE n.prog n.w) N (.call (.ref<|n.fa w) ⟨z,[]⟩) (λo s'=>∃v,o=.ok (.ret v)/\Res n (RV n) r Z H C v s') r
theorem nH:∀a l ao,(a.map (·.1)).Nodup->(∀x∈a,ao.lookup x.1=kf)->∀x,((Lm l a ao).lookup x).isSome=Do↔a.lookup x=j' .cell\/(ao.lookup x).isSome=Do:=by intro a;induction a with|nil=>exactλl ao _ _ x=>⟨.inr,λh=>h.elim (λe=>aP e) id⟩|cons u a ih=>
  intro l ao av j x;obtain⟨u,k⟩:=u;rw[Gq,FH]at av;rw[vG];by_cases X:(k==NameKind.cell)=Do
  .rw[aF X,ih (l+1) ((u,l)::ao) av.2 λM hz=>by
    rw[Fw];have:(M.1==u)=false:=by cases e:M.1==u with|false=>rfl|true=>exact aJ (beq_iff_eq.mp e▸Fx (f:=(·.1)) hz) av.1
    exact this▸j M (.tail _ hz)];rw[Fw,Fw];cases e:x==u with|true=>rw[beq_iff_eq.mp X];simp|false=>rfl
  .rw[aC X,ih l ao av.2 λM hz=>j M<|.tail _ hz,Fw];cases e:x==u with|true=>
    have e1:a.lookup x=.none:=by cases q:a.lookup x with|none=>rfl|some k'=>have:=Fx (f:=(·.1))<|Is q;rw[beq_iff_eq.mp e]at this;exact aJ this av.1
    have e2:ao.lookup x=.none:=beq_iff_eq.mp e▸j (u,k) (.head _);rw[e1,e2];have:k≠.cell:=λe=>X<|e.symm▸rfl;simp[this]|false=>rfl
section
variable{H:Hp}
theorem gH.ext(hz:∀d,Z d->Z' d)(X:∀p D,h.get? p=j' D->h'.get? p=j' D):∀{D},gH n h Z H d D->gH n h' Z' H d D:=by intro D;induction D with|list=>exactλx=>bn x λY l g o=>dR Y l (X _ _ g)<|o.mono hz λc c c e=>X _ _ e|dict=>exactλx=>hw x λds l g o k1 A=>⟨ds,l,X _ _ g,o.mono hz λc c c e=>X _ _ e,k1,A⟩|inst=>exactλx=>aZ x λg e u=>aN u λM q=>bn M λds l g' o=>⟨X _ _ g,e,dR ds l (X _ _ g')<|o.mono hz λc c c e=>X _ _ e,q⟩|b9=>exactλe=>ax (FZ.mp e) λD ho=>show(h'.get? d).isSome=Do from X _ _ ho▸rfl
theorem Inv.ext(I:Inv n h Z H)(X:∀p D,h.get? p=j' D->h'.get? p=j' D):Inv n h' Z H where
 base:=λp D e=>X _ _<|I.base p D e
 d6:=λd M=>by refine ax (I.d6 d M) λD ho=>?_;exact⟨D,X _ _ ho⟩
 zb:=I.zb
 hz:=I.hz
 obj:=λd D e=>(I.obj d D e).ext (λc M=>M) X
end
section
variable{ab:CW}
theorem vL(hf:FnOk n G tab ab (n.fa w) fn)(hl:fn.params.length=Y.length)(h:aV tab ab fn.body (Mine.Internal.fo fn.params Y) H λfl g H=>match fl with|.nx=>C .none H|.rt v=>C v H):q6 n (G+1) w Y H C:=by
 intro N r Z z O I o;obtain⟨ar,as,ay,f,A,args,body,scope,aj,doc,pm,az,K,aB,hK,ad,av,m,R,al,am,E,ao,p,ap⟩:=hf;have an:=n.X.keeps I.base;have aw:(fn.params.map aI).length=z.length:=by rw[Ex,hl,o.length]
 refine codeAny_call_function O.i7 (an _ _ hK) rfl al am rfl (codeRec_of an m) ?_;rw[vF (ns:=fn.params.map aI) rfl ad rfl aw av];refine tk<|wpAny_newFunctionEnv_cells R ?_ λaa he s' x=>?_
 .intro u hy;refine aA (EO.mp (JD (a:=u.1) (b:=u.2) hy).1) λi hi e=>?_;rw[<-e];refine(ao i hi).elim (λq=>?_) λq=>?_;.exact .inl q
  .exact .inr ⟨q,(nH scope.names _ [] p (λg g=>rfl) _).mpr<|.inl q⟩
 .subst he;have X:=x.toInCall.keep;refine bn x.done λh₁ aC y g=>?_;have Q:=x.toInCall.ns.lt;have I':Inv n s'.heap Z H:=I.ext X;have V:∀d,r.heap.objs.size<=d->¬Z d:=λd ha M=>by refine ax (I.d6 d M) λD ho=>?_;exact Gf.mpr ha<|E_ ho
  have ac:∀d,r.heap.objs.size<=d->H d=.none:=λd ha=>by cases e:H d with|none=>rfl|some D=>refine ax (I.alive (d:=d)<|by rw[e];simp) λD ho=>?_;exact aJ (E_ ho)<|Gf.mpr ha
  refine⟨(n.nolimit.keeps I.base).keeps X,codeAny_func ?_⟩;have F:Fm n s'.heap Z H (newEnv scope r.heap.objs.size HN (Lm (r.heap.objs.size+1) scope.names []) (A++".<locals>.") (j'<|n.fa w) K kf NE) scope.names<|Mine.Internal.fo fn.params Y:=by
   refine⟨R,rfl,rfl,rfl,⟨_,x.toInCall.ns,λi v e k=>?_⟩,λi v e k=>?_,λu e=>?_,λi v e=>E i<|vJ _ _ _ _ e,V _<|EM _,ac _<|EM _,λl c e=>?_,λl j c e e'=>name_of_addr x.apart (Is e)<|Is e'⟩;.refine aA (q5 fn.params z Y o hl av i v e) λva J L=>bm va (vH _ _ _ av _ k _ J)<|L.mono (λg M=>M) λg g g e=>X _ _ e
   .refine aA (q5 fn.params z Y o hl av i v e) λva J L=>ax (FZ.mp<|(nH scope.names (r.heap.objs.size+1) [] p (λg g=>rfl)<|aI i).mpr<|.inl k) λc hc=>dZ c va hc ?_<|L.mono (λg M=>M) λg g g e=>X _ _ e;have:=x.cell _ _ hc;rwa[vI _ _ _ av _ (by show scope.names.lookup (aI i)≠_;rw[k];decide) _ J]at this
   .refine ax (FZ.mp<|(nH scope.names (r.heap.objs.size+1) [] p (λg g=>rfl) u).mpr<|.inl e) λc hc=>dR c _ hc<|x.cell _ _ hc
   .have:r.heap.objs.size<c:=x.above _ _<|Is e;exact⟨V c<|Fa this,ac c<|Fa this,EW this,by refine aA (x.cell _ _ e) λD ho g=>?_;exact⟨D,ho⟩⟩
  refine EK (ap (O.deeper _) I' F h) (λfl s2 hR=>?_) λg g x=>x.elim;obtain⟨Z2,H2,l2,aq,P2,S,F2,ae,hq⟩:=hR;have af:∀d,FA (newEnv scope r.heap.objs.size HN (Lm (r.heap.objs.size+1) scope.names []) (A++".<locals>.") (j'<|n.fa w) K kf NE) d->r.heap.get? d=.none:=by
   intro d s;obtain(e|⟨l,e⟩):=s;.exact Gg<|Hx<|show r.heap.objs.size=d from e.symm
   .have:=x.above _ _<|Is e;exact Gg<|Fa<|show r.heap.objs.size<d from this
  have P1:Post r Z H s' Z H:=⟨y▸rfl,y▸rfl,λd D e g=>X d D e,λg M=>M,λg M=>.inl M,λg M=>.inl M,λd D e=>⟨D,X d D e⟩⟩;have P:Post r Z H s2 Z2 H2:=P1.en P2 af;induction fl<;>induction aq<;>first|exact HQ ae|skip
  .exact⟨_,rfl,Z2,H2,_,P,S,.none,hq⟩
  .exact⟨_,rfl,Z2,H2,_,P,S,ae,hq⟩
end
section
theorem vM{l:Nat}{x:V}{o:List V}:eR l (x::o)=.tup [.int l,x]::eR (l+1) o:=rfl
variable{H:Hp}
theorem gH.ext2(ha:H d≠kf)(hz:∀d,Z d->Z' d)(X:∀p D,Z p\/H p≠kf->h.get? p=j' D->h'.get? p=j' D):∀{D},gH n h Z H d D->gH n h' Z' H d D:=by intro D;induction D with|list=>exactλx=>bn x λY l g o=>dR Y l (X _ _ (.inr ha) g)<|o.mono hz λc c M e=>X _ _ (.inl M) e|dict=>exactλx=>hw x λds l g o k1 A=>⟨ds,l,X _ _ (.inr ha) g,o.mono hz λc c M e=>X _ _ (.inl M) e,k1,A⟩|inst=>exactλx=>aZ x λg e u=>aN u λM q=>bn M λds l g' o=>⟨X _ _ (.inr ha) g,e,dR ds l (X _ _ (.inr<|by rw[e];trivial) g')<|o.mono hz λc c M e=>X _ _ (.inl M) e,q⟩|b9=>exactλe=>ax (FZ.mp e) λD ho=>show(h'.get? d).isSome=Do from X _ _ (.inr ha) ho▸rfl
theorem Inv.ext2(I:Inv n h Z H)(hz:∀d,Z d->Z' d)(a:∀d,Z' d->Z d\/h.get? d=kf/\∃D,h'.get? d=j' D)(X:∀p D,Z p\/H p≠kf->h.get? p=j' D->h'.get? p=j' D):Inv n h' Z' H where
 base:=λp D e=>X _ _ (.inl<|I.zb _ _ e)<|I.base p D e
 d6:=λd M=>by
  refine(a d M).elim (λM=>?_) λM=>?_;.refine ax (I.d6 d M) λD ho=>?_;exact⟨D,X _ _ (.inl M) ho⟩
  .exact M.2
 zb:=λd D ha=>hz d<|I.zb d D ha
 hz:=λd ha M=>by
  refine(a d M).elim (λM=>?_) λM=>?_;.exact I.hz d ha M
  .refine ax (Inv.alive (r:={heap:=h}) I ha) λD ho=>?_;rw[M.1]at ho;exact aP ho
 obj:=λd D e=>(I.obj d D e).ext2 (by rw[e];simp) hz X
end
structure Itr(C:a_)(aq:Expr)(I:Addr)(aj:List Addr)(xs:List V)(J:Nat->Heap->(Addr->Prop)->Prop):Prop where
 mem:I∈aj
 mono:∀{i}{h h'}{Z Z'},J i h Z->(∀a,Z a->Z' a)->(∀a o,Z a\/a∈aj->h.get? a=some o->h'.get? a=some o)->J i h' Z'
 next:∀{A}{s}{Z}{H}{i},A.handled=.none->Inv C s.heap Z H->(∀a∈aj,¬Z a/\H a=.none)->J i s.heap Z->i<=xs.length->wpAny (model C.prog C.w) A (pyNext<|.ref I) (λr s1=>match xs[i]? with|Option.none=>r=.none/\PX (·∈aj) s Z H s1 Z H/\Inv C s1.heap Z H|some x=>∃v,r=some v/\wpAny (model C.prog C.w) A (letOwnedTupleGo aq (.ref I) v) (λb s2=>∃Z2,PX (·∈aj) s Z H s2 Z2 H/\Inv C s2.heap Z2 H/\J (i+1) s2.heap Z2/\Rep C.w s2.heap Z2 v x) aQ s1) aQ s
 alive:∀{i}{h}{Z},J i h Z->∀a∈aj,∃o,h.get? a=some o
 self:∀{A}{s}{Z}{i}{Q},J i s.heap Z->Q (.ref I) s->wpAny (model C.prog C.w) A (pyIter<|.ref I) Q aQ s
section
variable{r:EQ}{Z:EZ->Prop}{H:Hp}{A:List EZ}
theorem eH{h':F6}{aO:Nat}(X:∀p D,p∉A->r.heap.get? p=j' D->h'.get? p=j' D):PX (·∈A) r Z H {r with heap:=h',toks:=aO} Z H:=⟨rfl,rfl,λd D e c x=>X d D x e,λc M=>M,λc M=>.inl M,λc M=>.inl M,λd D e x=>⟨D,X d D x e⟩⟩
theorem eI(I:Inv n r.heap Z H)(hp:∀d∈A,¬Z d/\H d=kf)(X:∀p D,p∉A->r.heap.get? p=j' D->h'.get? p=j' D):Inv n h' Z H:=I.ext2 (λc M=>M) (λc M=>.inl M) λp D q e=>X p D (λy=>by
  refine aN (hp p y) λJ L=>?_;refine q.elim (λq=>?_) λq=>?_;.exact J q
  .exact q L) e
theorem cf(hs:Je it h h'):∀p D,p∉[it]->h.get? p=j' D->h'.get? p=j' D:=λp D hb e=>hs p D (λq=>hb<|q▸.head _) e
end
section
variable{px:J3}
set_option tactic.hygienic true in
theorem vN(I w:EZ)(Y:List EI)(l:Nat)(z:List V)(K:w≠I):Itr n (.Name x px) I [I] z λi h Z=>h.IsListIter I w i/\Z w/\h.get? w=j' (FF "list" Y.toArray l)/\Reps n.w h Z Y z where
 mem:=.head _
 mono:=λ{i h h' Z Z'}a hz X=>by refine bM a λJ L b h4=>aA J λD ho o=>⟨⟨D,X _ _ (.inr<|.head _) ho,o⟩,hz _ L,X _ _ (.inl L) b,h4.mono hz λd D M e=>X d D (.inl M) e⟩
 alive:=λ{i h Z}a d ha=>by refine aN a λJ p=>?_;refine aA J λD ho p=>?_;exact ta.mp ha▸⟨D,ho⟩
 self:=λ{N r Z i C}⟨J,_⟩hq=>Nc J hq
 next:=λ{N r Z H i}hh I' hp a hi=>by
  refine bM a λJ L b h4=>?_;have hl:r.heap.IsList w Y.toArray:=⟨_,b,rfl,l,rfl⟩
  cases E:z[i]? with|none=>
   have:Y.toArray[i]?=Option.none:=by have:=h4.length;rw[Ga]at E;simp;exact aT 0x77b4102820d820 rfl this E
   refine Ks hh J hl this λh' he=>⟨rfl,eH<|cf he,eI I' hp<|cf he⟩|some u=>refine aA (h4.get E) λv hv o=>Ka J hl (x:=v) (by simpa using hv) λh' m hs=>⟨v,rfl,?_⟩;refine tk ⟨Z,eH<|cf hs.extBut,eI I' hp<|cf hs.extBut,⟨m,L,(hs.2 w K).trans b,h4.mono (λp M=>M) λd D M e=>(hs.2 d λq=>(hp I<|.head _).1<|q▸M).trans e⟩,o.mono (λp M=>M) λd D M e=>(hs.2 d λq=>(hp I<|.head _).1<|q▸M).trans e⟩
set_option tactic.hygienic true in
theorem vO(I w:EZ)(Y:List EI)(l:Nat)(z:List V)(K:w≠I):Itr n (.Name x px) I [I] z λi h Z=>h.IsTupleIter I w i/\Z w/\h.get? w=j' (FF "tuple" Y.toArray l)/\Reps n.w h Z Y z where
 mem:=.head _
 mono:=λ{i h h' Z Z'}a hz X=>by refine bM a λJ L b h4=>aA J λD ho o=>⟨⟨D,X _ _ (.inr<|.head _) ho,o⟩,hz _ L,X _ _ (.inl L) b,h4.mono hz λd D M e=>X d D (.inl M) e⟩
 alive:=λ{i h Z}a d ha=>by refine aN a λJ p=>?_;refine aA J λD ho p=>?_;exact ta.mp ha▸⟨D,ho⟩
 self:=λ{N r Z i C}⟨J,_⟩hq=>wpAny_pyIter_tupleiter J hq
 next:=λ{N r Z H i}hh I' hp a hi=>by
  refine bM a λJ L b h4=>?_;have hl:r.heap.IsTuple w Y.toArray:=⟨_,b,rfl,l,rfl⟩
  cases E:z[i]? with|none=>
   have:Y.toArray[i]?=Option.none:=by have:=h4.length;rw[Ga]at E;simp;exact aT 0x77b4102820d820 rfl this E
   refine wpAny_pyNext_tuple_end hh J hl this λh' he=>⟨rfl,eH<|cf he,eI I' hp<|cf he⟩|some u=>refine aA (h4.get E) λv hv o=>wpAny_pyNext_tuple_item J hl (x:=v) (by simpa using hv) λh' m hs=>⟨v,rfl,?_⟩;refine tk ⟨Z,eH<|cf hs.extBut,eI I' hp<|cf hs.extBut,⟨m,L,(hs.2 w K).trans b,h4.mono (λp M=>M) λd D M e=>(hs.2 d λq=>(hp I<|.head _).1<|q▸M).trans e⟩,o.mono (λp M=>M) λd D M e=>(hs.2 d λq=>(hp I<|.head _).1<|q▸M).trans e⟩
set_option tactic.hygienic true in
theorem vP(l i:Nat):(eQ l)[i]?=if i<l then j' (V.int i)else Option.none:=by
 unfold eQ;rw[ET];split;.rename_i h;rw[GJ h];rfl
 .rename_i h;rw[Hd<|by simpa using h];rfl
set_option tactic.hygienic true in
theorem vQ(I:EZ)(l:Nat):Itr n (.Name x px) I [I] (eQ l) λi h p=>IsRangeIter h I i ((l:Int)-i) 1 where
 mem:=.head _
 mono:=λ{i h h' Z Z'}J hz X=>X _ _ (.inr<|.head _) J
 alive:=λ{i h Z}J d ha=>by rw[ta.mp ha];exact⟨_,J⟩
 self:=λ{N r Z i C}J hq=>wpAny_pyIter_rangeiter J hq
 next:=λ{N r Z H i}hh I' hp J hi=>by
  rw[vP];by_cases c:i<l;.rw[aF c];refine wpAny_pyNext_range_item J (aE 0xee1f2048204d420 rfl c) λh' m hs=>⟨_,rfl,?_⟩;refine tk ⟨Z,eH<|cf hs.extBut,eI I' hp<|cf hs.extBut,?_,.int _ _⟩;rw[show(i:Int)+1=((i+1:Nat):Int)from rfl,Int.sub_sub]at m;exact m
  .rw[aC c];exact wpAny_pyNext_range_end hh J (aE 0x1db812f90241f5420 rfl c) λh' he=>⟨rfl,eH<|cf he,eI I' hp<|cf he⟩
set_option tactic.hygienic true in
theorem vR(I:EZ)(u:List Nat)(t:Tok):Itr n (.Name x px) I [I] (u.map λc=>.str [c]) λi h p=>h.IsStrIter I "str_ascii_iterator" ⟨u.toArray⟩ t i where
 mem:=.head _
 mono:=λ{i h h' Z Z'}J hz X=>by refine aA J λD ho o=>?_;exact bm D (X _ _ (.inr<|.head _) ho) o
 alive:=λ{i h Z}J d ha=>by refine aA J λD ho p=>?_;exact ta.mp ha▸⟨D,ho⟩
 self:=λ{N r Z i C}J hq=>wpAny_pyIter_striter_ascii J hq
 next:=λ{N r Z H i}hh I' hp J hi=>by rw[ET];cases E:u[i]? with|none=>refine wpAny_pyNext_ascii_end hh J (by simpa using E) λh' he=>⟨rfl,eH<|cf he,eI I' hp<|cf he⟩|some c=>refine wpAny_pyNext_ascii_item J (c:=c) (by simpa using E) λh' m hs=>⟨_,rfl,?_⟩;exact tk ⟨Z,eH<|cf hs.extBut,eI I' hp<|cf hs.extBut,m,.str [c] _⟩
theorem q7:∀(z:List V)(k i:Nat),(eR k z)[i]?=z[i]?.map λu=>.tup [.int ((k+i:Nat):Int),u]|[],_,_=>by rfl|u::o,k,0=>by rfl|u::o,k,i+1=>by simp only[vM,Hq,q7 o (k+1) i];have:k+1+i=k+(i+1):=aE 0x1673829081c170520 rfl;rw[this]
theorem q8{r:EQ}{Z:EZ->Prop}{H:Hp}{A:List EZ}{h':F6}{t:EZ}{D:Obj}(I:Inv n r.heap Z H)(hp:∀d∈A,¬Z d/\H d=kf)(X:∀p D,p∉A->r.heap.get? p=j' D->h'.get? p=j' D)(ht:r.heap.get? t=kf)(ho:h'.get? t=j' D):Inv n h' (λd=>Z d\/d=t) H:=I.ext2 (λc M=>.inl M) (λd M=>M.imp id λe=>by clear M;replace e:=e.symm;subst e;exact⟨ht,D,ho⟩) λp D q e=>X p D (λy=>by
  refine aN (hp p y) λJ L=>?_;refine q.elim (λq=>?_) λq=>?_;.exact J q
  .exact q L) e
theorem q9{r:EQ}{Z:EZ->Prop}{H:Hp}{A:List EZ}{h':F6}{aO:Nat}{t:EZ}(X:∀p D,p∉A->r.heap.get? p=j' D->h'.get? p=j' D)(ht:r.heap.get? t=kf):PX (·∈A) r Z H {r with heap:=h',toks:=aO} (λd=>Z d\/d=t) H:=⟨rfl,rfl,λd D e c x=>X d D x e,λc M=>.inl M,λd M=>M.imp id λe=>by clear M;replace e:=e.symm;subst e;exact .inr ht,λc M=>.inl M,λd D e x=>⟨D,X d D x e⟩⟩
set_option tactic.hygienic true in
theorem vS{ab:List Ff}{k0:Nat}{p0:J3}(e it w:EZ)(Y:List EI)(l:Nat)(z:List V)(A:e≠it)(ad:w≠e)(ae:w≠it):Itr n (.Tuple ab k0 p0) e [e,it] (eR 0 z) λi h Z=>(∃f,IsEnum h e it i f)/\h.IsListIter it w i/\Z w/\h.get? w=j' (FF "list" Y.toArray l)/\Reps n.w h Z Y z where
 mem:=.head _
 mono:=λ{i h h' Z Z'}a hz X=>by refine jT a λs J L b h4=>ax s λf h0=>aA J λD ho o=>⟨⟨f,X _ _ (.inr<|.head _) h0⟩,⟨D,X _ _ (.inr<|.tail _<|.head _) ho,o⟩,hz _ L,X _ _ (.inl L) b,h4.mono hz λd D M e=>X d D (.inl M) e⟩
 alive:=λ{i h Z}a d ha=>by
  refine aZ a λs J c=>ax s λf h0=>?_;rcases EG.mp ha with rfl|ha;.exact⟨_,h0⟩
  .refine aA J λD ho c=>?_;exact ta.mp ha▸⟨D,ho⟩
 self:=λ{N r Z i C}⟨⟨f,h0⟩,_⟩hq=>wpAny_pyIter_enum h0 hq
 next:=λ{N r Z H i}hh I' hp a hi=>by refine jT a λs J L b h4=>ax s λf h0=>?_;have hl:r.heap.IsList w Y.toArray:=⟨_,b,rfl,l,rfl⟩;rw[q7];cases E:z[i]? with|none=>
   have:Y.toArray[i]?=Option.none:=by have:=h4.length;rw[Ga]at E;simp;exact aT 0x77b4102820d820 rfl this E
   refine wpAny_pyNext_enum_end hh h0 J hl this λh' he=>?_;have X:∀p D,p∉[e,it]->r.heap.get? p=j' D->h'.get? p=j' D:=λp D hb q=>he p D λq=>hb<|by rw[q];simp q;exact⟨rfl,eH X,eI I' hp X⟩|some u=>
   refine aA (h4.get E) λv hv o=>wpAny_pyNext_enum_item h0 J hl (x:=v) (by simpa using hv) A λh' he m ht ac G=>⟨_,rfl,?_⟩;refine wpAny_letOwnedTupleGo_enum he λO I hs=>?_;have Q:r.heap.get? r.heap.objs.size=.none:=Gg<|EM _;have aa:r.heap.objs.size≠e:=EW<|E_ h0;have S:O.get? r.heap.objs.size=j' {cls:=.type "tuple",data:=.seq #[.int i r.toks,v]}:=(hs.2 _ aa).trans ht;have X:∀p D,p∉[e,it]->r.heap.get? p=j' D->O.get? p=j' D:=λp D hb q=>(hs.2 p λq=>hb<|by rw[q];simp).trans<|G p D λq=>hb<|by rw[q];simp λq=>hb<|by rw[q];simp q;have j:∀d D,Z d->r.heap.get? d=j' D->O.get? d=j' D:=λd D M q=>X d D (λy=>(hp d y).1 M) q;have K:Rep n.w O (λd=>Z d\/d=r.heap.objs.size) v u:=o.mono (λc M=>.inl M) j;refine ee _ (q9 (aO:=r.toks+1) X Q) (q8 I' hp X Q S) ⟨⟨v,?_⟩,?_,.inl L,j _ _ L b,h4.mono (λc M=>.inl M) j⟩ ?_
   .have e1:((i+1:Nat):Int)=(i:Int)+1:=by exact aB 0x65c14c81270520 rfl
    exact e1▸I
   .refine aA m λD ho R=>?_;exact bm D ((hs.2 _<|HF A).trans ho) R
   .refine .tup _ [.int i r.toks,v] 0 _ (.inr rfl) S<|.cons ?_<|.cons K .nil;have e1:((0+i:Nat):Int)=(i:Int):=aB 0xcc81270009 rfl;exact e1▸.int _ _
end
section
variable{r:EQ}{G it:EZ}{ds:List FX}{ep i:Nat}
theorem gI(hd:r.heap.get? G=j' (bb ds ep)):r.TypeIs (.ref G) "dict":=⟨_,hd,rfl⟩
theorem q_(hd:r.heap.get? G=j' (bb ds ep))(h:C G r):Ey (EE al A) N (N9 f ⟨[.ref G],[]⟩) C aD r:=by dsimp only[N9];exact bnd (λd k=>Il (gI hd) k)<|tk h
theorem vT(hd:r.heap.get? G=j' (bb ds ep))(hm:(G==HB)=EF)(h:C (.ref r.heap.objs.size) {r with heap:=r.heap.push {cls:=.type "dict_values",data:=.fields #[.ref G]}}):Ey (EE al A) N (Hg (.builtin "dict.values") [.ref G]) C aD r:=by refine Fs F.slot_dict_values (gI hd) F.entry_dict_values ?_<|F.args_dict_values_1 _;refine bnd (λd k=>q_ hd k) ?_;show Ey _ _ (Jj G>>=_) _ _ r;dsimp only[Jj];refine qV (hm▸E2)<|cb<|s0<|Fu<|tk ⟨_,rfl,h⟩
theorem vU(hd:r.heap.get? G=j' (bb ds ep))(hm:(G==HB)=EF)(h:C (.ref r.heap.objs.size) {r with heap:=r.heap.push {cls:=.type "dict_items",data:=.fields #[.ref G]}}):Ey (EE al A) N (Hg (.builtin "dict.items") [.ref G]) C aD r:=by refine Fs F.slot_dict_items (gI hd) F.entry_dict_items ?_<|F.args_dict_items_1 _;refine bnd (λd k=>q_ hd k) ?_;show Ey _ _ (Jj G>>=_) _ _ r;dsimp only[Jj];refine qV (hm▸E2)<|cb<|s0<|Fu<|tk ⟨_,rfl,h⟩
theorem vV(hv:r.heap.IsValuesView v G)(hd:r.heap.get? G=j' (bb ds ep))(o:C (.ref r.heap.objs.size) {r with heap:=r.heap.push {cls:=.type "dict_valueiterator",data:=.fields #[.ref G,.int 0 0,.int ds.length 0,.int ep 0]}}):Ey (EE al A) N (Ju<|.ref v) C aD r:=by
 refine a4 (id hv) λov a e b=>Jh hv.typeIs F.slot_dict_values_iter<|Fs F.slot_dict_values_iter hv.typeIs F.entry_dict_values_iter ?_<|F.args_dict_values_iter_1 _;unfold Im.«dict_values.__iter__»;refine cb<|s0 ?_;unfold L8;refine bnd (λd k=>Jf a b (x:=.ref G) rfl k)<|tk<|s0 ?_;unfold KE;refine bnd (λd k=>G7 hd rfl k)<|s0<|I6 hd rfl ?_;have f:GO "dict_valueiterator"=false:=by decide
 simp only[f,Fh,if_false];refine Fu<|tk ⟨_,rfl,"dict_valueiterator",_,⟨_,ES _ rfl,rfl⟩,F.slot_dict_valueiterator_next.lookup,?_⟩;simpa[G4]using o
theorem vW(hv:r.heap.IsItemsView v G)(hd:r.heap.get? G=j' (bb ds ep))(o:C (.ref r.heap.objs.size) {r with heap:=r.heap.push {cls:=.type "dict_itemiterator",data:=.fields #[.none,.bool EF,.ref G,.int 0 0,.int ds.length 0,.int ep 0,.none,.none]}}):Ey (EE al A) N (Ju<|.ref v) C aD r:=by
 refine a4 (id hv) λov a e b=>Jh hv.typeIs F.slot_dict_items_iter<|Fs F.slot_dict_items_iter hv.typeIs F.entry_dict_items_iter ?_<|F.args_dict_items_iter_1 _;unfold Im.«dict_items.__iter__»;refine cb<|s0 ?_;unfold L8;refine bnd (λd k=>Jf a b (x:=.ref G) rfl k)<|tk<|s0 ?_;unfold KE;refine bnd (λd k=>G7 hd rfl k)<|s0<|I6 hd rfl ?_;have f:GO "dict_itemiterator"=true:=by decide
 simp only[f,if_true];refine Fu (tk ⟨_,rfl,"dict_itemiterator",_,⟨_,ES _ rfl,rfl⟩,F.slot_dict_itemiterator_next.lookup,?_⟩) (by show(8:Nat)<=sizeLine+2;rw[Gp];decide);simpa[G4,Oy]using o
theorem vX:entryFor table "dict_itemiterator.__iter__"=j' Builtin.«dict_keyiterator.__iter__»:=Nd (id':="dict_keyiterator.__iter__") (by kernel_rfl) rfl (by decide+kernel)<|by kernel_rfl
theorem vY(m:I8 r.heap it G i l ep ok ov)(h:C (.ref it) r):Ey (EE al A) N (Ju<|.ref it) C aD r:=by have hT:r.TypeIs (.ref it) "dict_itemiterator":=⟨_,m,rfl⟩;refine Jh hT F.slot_dict_itemiterator_iter<|Fs F.slot_dict_itemiterator_iter hT vX ?_<|F.args_dict_itemiterator_iter_1 _;show Ey _ _ (ret<|.ref it) _ _ r;exact tk ⟨_,rfl,"dict_itemiterator",_,hT,F.slot_dict_itemiterator_next.lookup,h⟩
theorem vZ(m:r.heap.IsValIter it G i ds.length ep)(ao:r.heap.get? G=j' (bb ds ep))(E:ds[i]?=j' e)(o:∀h',h'.IsValIter it G (i+1) ds.length ep->Gs it r.heap h'->C (j' e.val) {r with heap:=h'}):Ey (EE al A) N (Ix<|.ref it) C aD r:=by
 refine a4 (id m) λD ho hc hd=>?_;dsimp only[Ix];refine s0<|IU<|F' (name:=Et "__next__") m.typeIs F.slot_dict_valueiterator_next<|Fs F.slot_dict_valueiterator_next m.typeIs F.entry_dict_valueiterator_next ?_<|F.args_dict_valueiterator_next_1 _;refine cb<|s0<|s0 ?_;refine bnd (λd k=>H_ m.typeIs k)<|tk ?_;refine bnd (λd k=>Jk ho hd k) ?_;have f:GO "dict_valueiterator"=false:=by decide
 dsimp only[f,Fh,if_false];show Ey _ _ (if(F8 G==GZ)=Do then _ else _) _ _ r;refine cP (show¬(F8 G==GZ)=Do from E2)<|cb<|s0<|G7 ao rfl ?_;refine cP (by simp)<|cb<|s0<|I6 ao rfl ?_;refine cP (by simp)<|tk ?_;have a:ds.toArray[i]?=j' e:=by simpa using E
 simp only[show¬(i:Int)<0 from aB 0x3d802640 rfl,if_false,FM,a];refine s0<|bnd (λd k=>H_ m.typeIs k)<|tk ?_;refine bnd (λd k=>Kt m.typeIs k) ?_;show Ey _ _ (setField (.ref it) 1 (G4<|(i:Int)+1)>>=_) _ _ r;refine bnd (λd k=>GP ho hd (by simp) k) ?_;have b:(r.heap.update it<|HZ (·.setIfInBounds 1<|G4<|(i:Int)+1)).IsValIter it G (i+1) ds.length ep:=⟨_,FY _ ho<|Nf<|JM hd _,(OG ..).trans hc,by rw[JM hd];simp[G4]⟩;refine s0<|E4 ?_;refine bnd (λd k=>Kt (s:={r with heap:=r.heap.update it<|HZ (·.setIfInBounds 1<|G4<|(i:Int)+1)}) b.typeIs k)<|bnd (λd k=>Kt (s:={r with heap:=r.heap.update it<|HZ (·.setIfInBounds 1<|G4<|(i:Int)+1)}) b.typeIs k) ?_;show Ey _ _ (pure e.val) _ _ _;exact tk<|tk ⟨_,rfl,tk<|o _ b<|E5 ..⟩
theorem ra(hh:B.handled=kf)(o:∀h',(∀p D,h₁.get? p=j' D->h'.get? p=j' D)->∀e,(∃D,h'.get? e=j' D/\D.cls=.type "StopIteration")->aD (.ref e) {r with heap:=h'}):Ey (EE al A) B (newExc (.type "StopIteration") []>>=λe=>NF (α:=Fin) e) (λc c=>False) aD {r with heap:=h₁}:=by refine s0 ?_;dsimp only[newExc,newTuple];refine s0<|Fu ?_<|E8 _;refine s0 (m:=La _ _)<|HO (a:=GZ) (by first|rfl|(dsimp only[La];rfl)) ?_;refine Fu ?_ (by show(6:Nat)<=sizeLine+2;rw[Gp];decide);dsimp only[NF];refine s0<|wpAny_handled ?_;exact hh▸s0 (tk<|wpAny_throw<|o _ (λp D e=>EV _<|EV _ e) _ ⟨_,ES _ rfl,rfl⟩)
theorem v0(hh:N.handled=kf)(m:r.heap.IsValIter it G i ds.length ep)(ao:r.heap.get? G=j' (bb ds ep))(E:ds[i]?=kf)(o:∀h',Je it r.heap h'->C kf {r with heap:=h'}):Ey (EE al A) N (Ix<|.ref it) C aD r:=by
 refine a4 (id m) λD ho hc hd=>?_;dsimp only[Ix];refine s0<|IU<|F' (name:=Et "__next__") m.typeIs F.slot_dict_valueiterator_next<|Fs F.slot_dict_valueiterator_next m.typeIs F.entry_dict_valueiterator_next ?_<|F.args_dict_valueiterator_next_1 _;refine cb<|s0<|s0 ?_;refine bnd (λd k=>H_ m.typeIs k)<|tk ?_;refine bnd (λd k=>Jk ho hd k) ?_;have f:GO "dict_valueiterator"=false:=by decide
 dsimp only[f,Fh,if_false];show Ey _ _ (if(F8 G==GZ)=Do then _ else _) _ _ r;refine cP (show¬(F8 G==GZ)=Do from E2)<|cb<|s0<|G7 ao rfl ?_;refine cP (by simp)<|cb<|s0<|I6 ao rfl ?_;refine cP (by simp)<|tk ?_;have a:ds.toArray[i]?=Option.none:=by simpa using E
 simp only[show¬(i:Int)<0 from aB 0x3d802640 rfl,if_false,FM,a];refine s0<|bnd (λd k=>H_ m.typeIs k)<|tk ?_;show Ey _ _ (setField (.ref it) 0 .none>>=_) _ _ r;refine bnd (λd k=>GP ho hd (by simp) k)<|EK (ra (aD:=λe s'=>_) hh λh' X e he=>?_) (λd d x=>x.elim) λd d x=>x;refine bnd (λd k=>Jr (T:="StopIteration") (b:=Do) he Ng k)<|tk<|o _ λp D hb q=>X p D<|(E5 ..).extBut p D hb q
theorem v4(m:I8 r.heap it G i ds.length ep ok ov)(ao:r.heap.get? G=j' (bb ds ep))(E:ds[i]?=j' e)(o:∀h',NW h' it G (i+1) ds.length ep e.key e.val r.heap.objs.size->h'.get? r.heap.objs.size=j' {cls:=.type "tuple",data:=.seq #[e.key,e.val]}->(∀p D,p≠it->r.heap.get? p=j' D->h'.get? p=j' D)->C (j'<|.ref r.heap.objs.size) {r with heap:=h'}):Ey (EE al A) N (Ix<|.ref it) C aD r:=by
 obtain⟨hp,g,dr,aO,os⟩:=r;have hT:NX ⟨hp,g,dr,aO,os⟩ (.ref it) "dict_itemiterator":=⟨_,m,rfl⟩;dsimp only[Ix];refine s0<|IU<|F' (name:=Et "__next__") hT F.slot_dict_itemiterator_next<|Fs F.slot_dict_itemiterator_next hT F.entry_dict_itemiterator_next ?_<|F.args_dict_itemiterator_next_1 _;refine cb<|s0<|s0 ?_;refine bnd (λd k=>HT hT k)<|tk ?_;refine bnd (λd k=>Jk m rfl k) ?_;have f:GO "dict_itemiterator"=true:=by decide
 dsimp only[f,if_true];show Ey _ _ (if(F8 G==GZ)=Do then _ else _) _ _ _;refine cP (show¬(F8 G==GZ)=Do from E2)<|cb<|s0<|G7 ao rfl ?_;refine cP (by simp)<|cb<|s0<|I6 ao rfl ?_;refine cP (by simp)<|tk ?_;have a:ds.toArray[i]?=j' e:=by simpa using E
 simp only[show¬(i:Int)<0 from aB 0x3d802640 rfl,if_false,FM,a];refine s0<|bnd (λd k=>HT hT k)<|tk ?_;refine bnd (λd k=>Kb hT k) ?_;show Ey _ _ (setField (.ref it) 3 (G4<|(i:Int)+1)>>=_) _ _ ⟨hp,g,dr,aO,os⟩;refine s0<|I9 m (by simp) λh₁ n b=>?_;replace b:Gs it hp h₁:=b;replace n:I8 h₁ it G (i+1) ds.length ep ok ov:=by have e:((i+1:Nat):Int)=(i:Int)+1:=aB 0x65c14c81270520 rfl;unfold I8;rw[e];simpa[G4]using n
 have u:NX ⟨h₁,g,dr,aO,os⟩ (.ref it) "dict_itemiterator":=⟨_,n,rfl⟩;refine s0<|E4<|bnd (λd k=>Kb u k)<|s0<|Kb u ?_;show Ey _ _ (Ko (.ref it) 6 e.key e.val) _ _ ⟨h₁,g,dr,aO,os⟩;dsimp only[Ko];refine bnd (λd k=>Nh k) ?_;have l:I8 (h₁.push {cls:=.type "tuple",data:=.seq #[e.key,e.val]}) it G (i+1) ds.length ep ok ov:=EV _ n;generalize w:h₁.push {cls:=.type "tuple",data:=.seq #[e.key,e.val]}=j at l;have y:h₁.objs.size=hp.objs.size:=b.1;have S:it<hp.objs.size:=E_ m;have V:j.get? hp.objs.size=j' {cls:=.type "tuple",data:=.seq #[e.key,e.val]}:=w▸y▸ES _ rfl;have X:∀p D,p≠it->hp.get? p=j' D->j.get? p=j' D:=λp D hb e=>w▸EV _ (b.extBut p D hb e);show Ey _ _ (JZ (.ref it)>>=_) _ _ ⟨j,g,dr,aO,os⟩;rw[y];clear w n b u y h₁;refine s0 ?_;unfold JZ;refine bnd (λd k=>Jf l rfl (x:=.none) rfl k)<|tk ?_;dsimp only[if_true];refine s0<|Jf l rfl (x:=ok) rfl<|bnd (λd k=>Jf l rfl (x:=ov) rfl k) ?_;refine s0<|I9 l (by simp) λq z H=>?_;replace H:Gs it j q:=H;replace z:I8 q it G (i+1) ds.length ep e.key ov:=z;refine s0<|I9 z (by simp) λI J K=>?_;replace K:Gs it q I:=K;replace J:I8 I it G (i+1) ds.length ep e.key e.val:=J;refine s0<|I9 J (by simp) λL M O=>?_;replace O:Gs it I L:=O;replace M:NW L it G (i+1) ds.length ep e.key e.val hp.objs.size:=M;refine s0<|I9 M (by simp) λs Q R=>?_;replace R:Gs it L s:=R;replace Q:NW s it G (i+1) ds.length ep e.key e.val hp.objs.size:=Q;have all:∀p D,p≠it->j.get? p=j' D->s.get? p=j' D:=λp D hb e=>R.extBut p D hb<|O.extBut p D hb<|K.extBut p D hb<|H.extBut p D hb e;exact bnd (λd k=>wpAny_letGo k)<|tk<|tk ⟨_,rfl,tk<|o s Q (all _ _ (EW S) V) λp D hb e=>all p D hb<|X p D hb e⟩
theorem v5(hh:N.handled=kf)(m:I8 r.heap it G i ds.length ep ok ov)(ao:r.heap.get? G=j' (bb ds ep))(E:ds[i]?=kf)(o:∀h',Je it r.heap h'->C kf {r with heap:=h'}):Ey (EE al A) N (Ix<|.ref it) C aD r:=by
 have hT:r.TypeIs (.ref it) "dict_itemiterator":=⟨_,m,rfl⟩;dsimp only[Ix];refine s0<|IU<|F' (name:=Et "__next__") hT F.slot_dict_itemiterator_next<|Fs F.slot_dict_itemiterator_next hT F.entry_dict_itemiterator_next ?_<|F.args_dict_itemiterator_next_1 _;refine cb<|s0<|s0 ?_;refine bnd (λd k=>HT hT k)<|tk ?_;refine bnd (λd k=>Jk m rfl k) ?_;have f:GO "dict_itemiterator"=true:=by decide
 dsimp only[f,if_true];show Ey _ _ (if(F8 G==GZ)=Do then _ else _) _ _ r;refine cP (show¬(F8 G==GZ)=Do from E2)<|cb<|s0<|G7 ao rfl ?_;refine cP (by simp)<|cb<|s0<|I6 ao rfl ?_;refine cP (by simp)<|tk ?_;have a:ds.toArray[i]?=Option.none:=by simpa using E
 simp only[show¬(i:Int)<0 from aB 0x3d802640 rfl,if_false,FM,a];refine s0<|bnd (λd k=>HT hT k)<|tk ?_;show Ey _ _ (setField (.ref it) 2 .none>>=_) _ _ r;refine bnd (λd k=>GP m rfl (by simp) k)<|EK (ra (aD:=λe s'=>_) hh λh' X e he=>?_) (λd d x=>x.elim) λd d x=>x;refine bnd (λd k=>Jr (T:="StopIteration") (b:=Do) he Ng k)<|tk<|o _ λp D hb q=>X p D<|(E5 ..).extBut p D hb q
end
section
variable{px:J3}
theorem RepE.length(o:RepE A h Z ds f):ds.length=f.length:=o.ind (P:=λds f=>ds.length=f.length) rfl λd d d d ih=>aY Nat.succ ih
theorem RepE.get(o:RepE A h Z ds f):∀{i:Nat}{k v:V},f[i]?=j' (k,v)->∃e,ds[i]?=j' e/\e.hash=a8 A k/\Rep A h Z e.key k/\Rep A h Z e.val v:=o.ind (P:=λds f=>∀{i:Nat}{k v:V},f[i]?=j' (k,v)->∃e,ds[i]?=j' e/\e.hash=a8 A k/\Rep A h Z e.key k/\Rep A h Z e.val v) (λE=>aP E) λ{e j ds f}d p c _ ih{i k v}E=>by induction i with|zero=>obtain rfl:=EA E;exact ee e rfl d p c|succ a=>exact ih E
set_option tactic.hygienic true in
theorem v6(I w:EZ)(ds:List FX)(l:Nat)(f:List<|V×V)(K:w≠I):Itr n (.Name x px) I [I] (f.map λe=>e.2) λi h Z=>h.IsValIter I w i ds.length l/\Z w/\h.get? w=j' (bb ds l)/\RepE n.w h Z ds f where
 mem:=.head _
 mono:=λ{i h h' Z Z'}a hz X=>by refine bM a λJ L b h4=>aA J λD ho o=>⟨⟨D,X _ _ (.inr<|.head _) ho,o⟩,hz _ L,X _ _ (.inl L) b,h4.mono hz λd D M e=>X d D (.inl M) e⟩
 alive:=λ{i h Z}a d ha=>by refine aN a λJ p=>?_;refine aA J λD ho p=>?_;exact ta.mp ha▸⟨D,ho⟩
 self:=λ{N r Z i C}⟨J,_⟩hq=>wpAny_pyIter_valiter J hq
 next:=λ{N r Z H i}hh I' hp a hi=>by
  refine bM a λJ L b h4=>?_;rw[ET];cases E:f[i]? with|none=>
   have:ds[i]?=Option.none:=by have:=h4.length;rw[Ga]at E⊢;exact aT 0x77b4102820d820 rfl this E
   refine v0 hh J b this λh' he=>⟨rfl,eH<|cf he,eI I' hp<|cf he⟩|some u=>obtain⟨k,v⟩:=u;refine b5 (h4.get E) λe he p p o=>vZ J b he λh' m hs=>⟨_,rfl,?_⟩;have j:∀d D,Z d->r.heap.get? d=j' D->h'.get? d=j' D:=λd D M e=>(hs.2 d λq=>(hp I<|.head _).1<|q▸M).trans e;exact tk ⟨Z,eH<|cf hs.extBut,eI I' hp<|cf hs.extBut,⟨m,L,j _ _ L b,h4.mono (λp M=>M) j⟩,o.mono (λp M=>M) j⟩
set_option tactic.hygienic true in
theorem v7(I w:EZ)(ds:List FX)(l:Nat)(f:List<|V×V)(K:w≠I):Itr n (.Tuple ab k0 p0) I [I] (f.map λe=>.tup [e.1,e.2]) λi h Z=>(∃ok ov,I8 h I w i ds.length l ok ov)/\Z w/\h.get? w=j' (bb ds l)/\RepE n.w h Z ds f where
 mem:=.head _
 mono:=λ{i h h' Z Z'}q hz X=>by refine bM q λs L b h4=>cL s λok ov J=>⟨⟨ok,ov,X _ _ (.inr<|.head _) J⟩,hz _ L,X _ _ (.inl L) b,h4.mono hz λd D M e=>X d D (.inl M) e⟩
 alive:=λ{i h Z}a d ha=>by refine aN a λs c=>cL s λok ov J=>?_;exact ta.mp ha▸⟨_,J⟩
 self:=λ{N r Z i C}q hq=>by refine aN q λs c=>cL s λok ov J=>vY J hq
 next:=λ{N r Z H i}hh I' hp a hi=>by refine bM a λs L b h4=>cL s λok ov J=>?_;rw[ET];cases E:f[i]? with
  |none=>
   have:ds[i]?=Option.none:=by have:=h4.length;rw[Ga]at E⊢;exact aT 0x77b4102820d820 rfl this E
   refine v5 hh J b this λh' he=>⟨rfl,eH<|cf he,eI I' hp<|cf he⟩|some u=>obtain⟨k,v⟩:=u;refine b5 (h4.get E) λe he c rk o=>v4 J b he λh' m ht G=>⟨_,rfl,?_⟩;refine wpAny_letOwnedTupleGo_items m λO z hs=>?_;have Q:r.heap.get? r.heap.objs.size=.none:=Gg<|EM _;have aa:r.heap.objs.size≠I:=EW<|E_ J;have S:O.get? r.heap.objs.size=j' {cls:=.type "tuple",data:=.seq #[e.key,e.val]}:=(hs.2 _ aa).trans ht;have X:∀p D,p∉[I]->r.heap.get? p=j' D->O.get? p=j' D:=λp D hb q=>(hs.2 p λq=>hb<|by rw[q];simp).trans<|G p D λq=>hb<|by rw[q];simp q;have j:∀d D,Z d->r.heap.get? d=j' D->O.get? d=j' D:=λd D M q=>X d D (λy=>(hp d y).1 M) q;refine ee _ (q9 (aO:=r.toks) X Q) (q8 I' hp X Q S) ⟨⟨_,_,z⟩,.inl L,j _ _ L b,h4.mono (λc M=>.inl M) j⟩<|.tup _ [e.key,e.val] 0 _ (.inr rfl) S<|.cons (rk.mono (λc M=>.inl M) j)<|.cons (o.mono (λc M=>.inl M) j) .nil
end
section
variable{n:a_}{r ae s2:EQ}{Z as Z2:EZ->Prop}{H aq H2:Hp}{aa:IC}{sc:List<|EJ×Fv}{m l2:aL}{ex:EZ->Prop}
theorem Fm.fa(F:Fm n r.heap Z H aa sc m)(h:FA aa d):¬Z d/\H d=kf/\∃D,r.heap.get? d=j' D:=by
 rcases h with rfl|⟨l,h⟩;.refine aA F.ns λy s p=>fJ s λD p p ho p=>⟨F.lz,F.lh,D,ho⟩
 .refine bM (F.cz l d h) λJ L p b=>⟨J,L,b⟩
theorem Fm.px(F:Fm n r.heap Z H aa sc m)(I:Inv n r.heap Z H)(j:PX ex r Z H ae as aq)(E:∀d,FA aa d->¬ex d)(hz:∀d,Z d->¬ex d):Fm n ae.heap as aq aa sc m:=by
 have fin:∀d,FA aa d->(∀D,r.heap.get? d=j' D->ae.heap.get? d=j' D)/\¬as d/\aq d=.none:=λd ha=>by
  refine aZ (F.fa ha) λJ L s=>ax s λD ho=>⟨λD e=>j.keep d D e L<|E d ha,λM=>?_,?_⟩
  .rcases j.bz d M with q|q|q;.exact J q
   .exact q L
   .rw[q]at ho;exact aP ho
  .cases e:aq d with|none=>rfl|some x=>
    refine(j.bl d<|by rw[e];simp).elim (λq=>?_) λq=>?_;.exact aJ L q
    .rw[q]at ho;exact aP ho
 refine aA F.ns λy hn hm=>?_;have w:∀l c v,aa.cells.lookup l=j' c->r.heap.IsCell c v->ae.heap.IsCell c v:=λl c v e⟨D,ho,hd⟩=>⟨D,(fin c<|.inr ⟨l,e⟩).1 D ho,hd⟩;refine⟨F.kind,F.names,F.globals,F.builtins,⟨y,?_,λi v e k=>?_⟩,λi v e k=>?_,λx e=>?_,F.low,(fin _<|.inl rfl).2.1,(fin _<|.inl rfl).2.2,λl c e=>?_,F.apart⟩;.refine fJ hn λD f ep ho o=>i_ D f ep ((fin _<|.inl rfl).1 _ ho) o
 .refine aA (hm i v e k) λva J L=>?_;exact bm va J<|j.rep I hz L
 .refine cM (F.cell i v e k) λc va J L b=>?_;exact dZ c va J (w _ _ _ J L)<|j.rep I hz b
 .refine bn (F.bc x e) λc v J L=>?_;exact dR c v J<|w _ _ _ J L
 .refine bM (F.cz l c e) λp p b s=>ax s λD ho=>⟨(fin c<|.inr ⟨l,e⟩).2.1,(fin c<|.inr ⟨l,e⟩).2.2,b,D,(fin c<|.inr ⟨l,e⟩).1 D ho⟩
abbrev LA(aa:IC)(d:EZ):Prop:=d=aa.locals
theorem v8(hex:∀d,a d->FA aa d)(j:PX a r Z H ae as aq)(q:PX ex ae as aq s2 Z2 H2)(hq:∀d,ex d->a d\/r.heap.get? d=kf)(F:Fm n s2.heap Z2 H2 aa sc l2):PX a r Z H s2 Z2 H2:=j.trans q hq (λd p p p x M=>aJ M (F.fa<|hex d x).1) λd p p p x=>(F.fa<|hex d x).2.1
theorem kb(j:eZ aa r Z H ae as aq)(q:PX ex ae as aq s2 Z2 H2)(hq:∀d,ex d->FA aa d\/r.heap.get? d=kf)(F:Fm n s2.heap Z2 H2 aa sc l2):eZ aa r Z H s2 Z2 H2:=j.trans q hq (λd p p p x M=>aJ M (F.fa x).1) λd p p p x=>(F.fa x).2.1
theorem v9(j:eZ aa r Z H ae as aq)(q:Post ae as aq s2 Z2 H2)(F:Fm n s2.heap Z2 H2 aa sc l2):eZ aa r Z H s2 Z2 H2:=kb j (q.px (ex:=λd=>False)) (λd x=>x.elim) F
theorem hE(j:eZ aa r Z H ae as aq)(q:eZ aa ae as aq s2 Z2 H2)(F:Fm n s2.heap Z2 H2 aa sc l2):eZ aa r Z H s2 Z2 H2:=kb j q (λd x=>.inl x) F
theorem nI:∀{i a},i<bU.length->a<bU.length->aI i=aI a->i=a:=by
 have:∀i,i<bU.length->∀a,a<bU.length->aI i=aI a->i=a:=by decide+kernel
 exactλ{i a}d p c=>this i d a p c
set_option tactic.hygienic true in
theorem lI(hi:i<bU.length)(I:Inv n r.heap Z H)(F:Fm n r.heap Z H aa sc m)(o:Rep n.w r.heap Z v x)(X:sc.lookup (aI i)=j' .local/\ex=LA aa\/(sc.lookup (aI i)=j' .local\/sc.lookup (aI i)=j' .cell)/\ex=FA aa)(h:∀s',PX ex r Z H s' Z H->Inv n s'.heap Z H->Fm n s'.heap Z H aa sc (m.set i x)->C () s'):Ey (EE n.prog n.w) N (storeName aa (aI i) v) C aQ r:=by
 have kl:∀k,aa.kindOf k=sc.lookup k:=λk=>F.kd;have ne:∀a v,m a=j' v->a≠i->aI a≠aI i:=λa v e q A=>q<|nI (F.low a v e) hi A;have f:∀a v,m.set i x a=j' v->a<bU.length:=λa v e=>by
  unfold aL.set at e;split at e;.rename_i q;exact q▸hi
  .exact F.low a v e
 have z:∀d,¬ex d->¬LA aa d:=λd E q=>by
  clear h;rcases X with⟨_,rfl⟩|⟨_,rfl⟩;.exact E q
  .exact E<|.inl q
 have ac:sc.lookup (aI i)=j' .local\/sc.lookup (aI i)=j' .cell/\ex=FA aa:=by
  rcases X with⟨X,_⟩|⟨X|X,e⟩;.exact .inl X
  .exact .inl X
  .exact .inr ⟨X,e⟩
 clear X;refine ac.elim (λX=>?_) λar=>aN ar λX O=>?_
 .refine aA F.ns λy hn hm=>wpAny_storeName_local (by rw[kl];exact X) hn (λh' Q hs=>?_)<|F.kind▸rfl;have j:∀d D,Z d->r.heap.get? d=j' D->h'.get? d=j' D:=λd D M e=>(hs.2 d λq=>F.lz<|q▸M).trans e;have I':Inv n h' Z H:=I.ext2 (λG M=>M) (λG M=>.inl M) λp D q e=>(hs.2 p λA=>by
   refine q.elim (λq=>?_) λq=>?_;.exact F.lz<|A▸q
   .exact q<|A▸F.lh).trans e;have w:∀l c v,aa.cells.lookup l=j' c->r.heap.IsCell c v->h'.IsCell c v:=λl c v e⟨D,ho,hd⟩=>⟨D,(hs.2 c (F.cz l c e).2.2.1).trans ho,hd⟩;refine h {r with heap:=h',toks:=r.toks+1} ⟨rfl,rfl,λd D e G E=>(hs.2 d<|z d E).trans e,λG M=>M,λG M=>.inl M,λG M=>.inl M,λd D e E=>⟨D,(hs.2 d<|z d E).trans e⟩⟩ I' ⟨F.kind,F.names,F.globals,F.builtins,⟨_,Q,λa v e k=>?_⟩,λa v e k=>?_,λu e=>?_,f,F.lz,F.lh,λl c e=>?_,F.apart⟩
  .unfold aL.set at e;split at e;.rename_i q;replace q:=q.symm;subst q;obtain rfl:=IV<|EA e;exact bm _ (aF rfl)<|o.mono (λG M=>M) j
   .rename_i q;refine aA (hm a v e k) λva J L=>bm va ((aC<|ne a v e q).trans J)<|L.mono (λG M=>M) j
  .unfold aL.set at e;split at e;.rename_i q;clear hi h ne f Q;replace q:=q.symm;subst q;rw[X]at k;cases k
   .refine cM (F.cell a v e k) λc va J L b=>dZ c va J (w _ _ _ J L)<|b.mono (λG M=>M) j
  .refine bn (F.bc u e) λc v J L=>?_;exact dR c v J<|w _ _ _ J L
  .refine bM (F.cz l c e) λJ L b s=>ax s λD ho=>⟨J,L,b,D,(hs.2 c b).trans ho⟩
 .refine bn (F.bc _ X) λc S hc R=>bM (F.cz _ c hc) λs z2 z3 G=>wpAny_storeName_cell F.kind (by rw[kl];exact X) hc R λh' am hs=>?_;have j:∀d D,Z d->r.heap.get? d=j' D->h'.get? d=j' D:=λd D M e=>(hs.2 d λq=>s<|q▸M).trans e;have I':Inv n h' Z H:=I.ext2 (λG M=>M) (λG M=>.inl M) λp D q e=>(hs.2 p λA=>by
   refine q.elim (λq=>?_) λq=>?_;.exact s<|A▸q
   .exact q<|A▸z2).trans e;have w:∀l c' v,l≠aI i->aa.cells.lookup l=j' c'->r.heap.IsCell c' v->h'.IsCell c' v:=λl c' v K e⟨D,ho,hd⟩=>⟨D,(hs.2 c' λq=>K<|F.apart l (aI i) c' e<|q▸hc).trans ho,hd⟩;refine aA F.ns λy hn hm=>h {r with heap:=h'} ⟨rfl,rfl,λd D e G E=>(hs.2 d λq=>E<|O▸.inr ⟨_,q▸hc⟩).trans e,λG M=>M,λG M=>.inl M,λG M=>.inl M,λd D e E=>⟨D,(hs.2 d λq=>E<|O▸.inr ⟨_,q▸hc⟩).trans e⟩⟩ I' ⟨F.kind,F.names,F.globals,F.builtins,⟨y,hn.sameBut hs<|HF z3,λa v e k=>?_⟩,λa v e k=>?_,λu e=>?_,f,F.lz,F.lh,λl c' e=>?_,F.apart⟩
  .unfold aL.set at e;split at e;.rename_i q;clear hi h ne f hc w;replace q:=q.symm;subst q;rw[X]at k;cases k
   .refine aA (hm a v e k) λva J L=>bm va J<|L.mono (λG M=>M) j
  .unfold aL.set at e;split at e;.rename_i q;replace q:=q.symm;subst q;obtain rfl:=IV<|EA e;exact dZ c _ hc am<|o.mono (λG M=>M) j
   .rename_i q;refine cM (F.cell a v e k) λc' va J L b=>dZ c' va J (w _ _ _ (ne a v e q) J L)<|b.mono (λG M=>M) j
  .by_cases hy:u=aI i;.clear e;replace hy:=hy.symm;subst hy;exact dR c _ hc am
   .refine bn (F.bc u e) λc' v J L=>?_;exact dR c' v J<|w _ _ _ hy J L
  .refine bM (F.cz l c' e) λJ L b s=>ax s λD ho=>⟨J,L,b,?_⟩;by_cases q:c'=c;.clear hc R s z2 z3 G hs;replace q:=q.symm;clear e J L b ho;subst q;refine aA am λo' ab G=>?_;exact⟨o',ab⟩
   .exact⟨D,(hs.2 c' q).trans ho⟩
end
section
variable{r:EQ}
theorem v_(K:t≠it):∀l i r C,r.heap.IsListIter it t i->r.heap.IsList t items->i+l<=items.size->(∀h',h'.IsListIter it t (i+l)->Gs it r.heap h'->C ((items.toList.drop i).take l) {r with heap:=h'})->Ey (EE al A) N (draw (.ref it) l) C aD r:=by intro l;induction l with|zero=>intro i r C m _ _ o;exact tk<|by simpa using o r.heap m<|LZ ..|succ l ih=>
  intro i r C m ht aa o;have ad:i<items.size:=by exact aT 0xed440a09ce0a420 rfl aa
  refine s0<|Ka m ht (x:=items[i]) (by simp[ad]) λh₁ a b=>?_;refine s0<|E4<|ih (i+1) _ _ a (ht.extBut b.extBut K) (aT 0x1da09c170520a09ce0a420 rfl aa) λj d e=>tk ?_;have hd:items.toList.drop i=items[i]::items.toList.drop (i+1):=by simp[GH,ad]
  have:=o j ((show i+(l+1)=i+1+l by exact aE 0x16705c1481ce0a420 rfl).symm▸d)<|b.trans e;rw[hd,List.take_succ_cons]at this;exact this
theorem rb(hh:N.handled=kf)(ht:r.heap.IsList t items)(o:∀h',Je r.heap.objs.size r.heap h'->C items.toList {r with heap:=h'}):Ey (EE al A) N (MX (.ref t) items.size kf) C aD r:=by
 have ad:t≠r.heap.objs.size:=by refine aA ht λD ho d=>?_;exact EP<|E_ ho
 unfold MX;refine s0 ?_;unfold notIterableAtAll;refine bnd (λd k=>I2 ht.typeIs F.slot_list_iter.lookup k)<|tk ?_;dsimp only[Fh,if_false];refine s0<|E4<|J5 ht ?_;refine s0<|E4<|v_ ad items.size 0 _ _ ⟨_,ES _ rfl,rfl,rfl⟩ (ht.push _) (aB 0x28070009 rfl) λh₁ a b=>?_;have az:List.take items.size (List.drop 0 items.toList)=items.toList:=by exact Lb▸Kc (by simp)
 rw[az,aC<|by simp];have f:h₁.IsList t items:=(ht.push _).extBut b.extBut ad;refine s0<|E4<|Ks hh a f (by simp) λj l=>?_;dsimp only[Oe,Fh,if_false];exact tk<|o j λp D hb e=>l p D hb<|b.extBut p D hb<|EV _ e
end
theorem nJ(he:Je h.objs.size h h'):∀p D,h.get? p=j' D->h'.get? p=j' D:=λp D e=>he p D (EP<|E_ e) e
section
variable{N:GI}
theorem fP{h':F6}{aO:Nat}(X:∀p D,r.heap.get? p=j' D->h'.get? p=j' D):Post r Z H {r with heap:=h',toks:=aO} Z H:=⟨rfl,rfl,λd D e c=>X d D e,λc M=>M,λc M=>.inl M,λc M=>.inl M,λd D e=>⟨D,X d D e⟩⟩
set_option tactic.hygienic true in
theorem rc{C:List EI->EQ->Prop}(O:N.handled=kf)(I:Inv n r.heap Z H)(o:Rep n.w r.heap Z v x)(E:bT H x=j' z)(hn:z.length=l)(h:∀Y ae,Post r Z H ae Z H->Inv n ae.heap Z H->Reps n.w ae.heap Z Y z->C Y ae):Ey (EE n.prog n.w) N (MX v l kf) C aQ r:=by have fin:∀Y h',Reps n.w r.heap Z Y z->(∀p D,r.heap.get? p=j' D->h'.get? p=j' D)->C Y {r with heap:=h'}:=λY h' q X=>h Y _ (fP (aO:=r.toks) X) (I.ext X)<|q.mono (λc M=>M) λd D c e=>X d D e;induction x using Mine.Internal.V.casesOn with
 |tup ys=>
  obtain rfl:=IV<|EA E;refine o.di λd Y k M g q=>?_;have e:l=Y.toArray.size:=by rw[<-hn,<-q.length];rfl
  exact e▸wpAny_unpackItems_tuple O ⟨_,g,rfl,k,rfl⟩ λh' he=>by simpa using fin Y h' q<|nJ he|lst ys=>
  obtain rfl:=IV<|EA E;refine o.ez λd Y k M g q=>?_;have e:l=Y.toArray.size:=by rw[<-hn,<-q.length];rfl
  exact e▸rb O ⟨_,g,rfl,k,rfl⟩ λh' he=>by simpa using fin Y h' q<|nJ he|ref d=>refine o.fb ?_;cases e:H d with|none=>rw[show bT H (.ref d)=match H d with|some<|.list z=>j' z|_=>kf from rfl,e]at E;exact aP E|some D=>rw[show bT H (.ref d)=match H d with|some<|.list z=>j' z|_=>kf from rfl,e]at E;cases D with
   |list ys=>
    obtain rfl:=IV<|EA E;refine bn (I.obj _ _ e) λY k g q=>?_;have e:l=Y.toArray.size:=by rw[<-hn,<-q.length];rfl
    exact e▸rb O ⟨_,g,rfl,k,rfl⟩ λh' he=>by simpa using fin Y h' q<|nJ he|_=>exact aP E
 |_=>exact aP E
end
inductive ResG(C:a_)(ex:Env->Addr->Prop)(env:Env)(sc:List<|PySem.Str×NameKind)(s:Shared)(Z:Addr->Prop)(H:Hp)(Q:aL->Hp->Prop)(u:Unit)(s':Shared):Prop|mk(Z':Addr->Prop)(H':Hp)(l':aL):PX (ex env) s Z H s' Z' H'->Inv C s'.heap Z' H'->Fm C s'.heap Z' H' env sc l'->Q l' H'->ResG C ex env sc s Z H Q u s'
def cR(n:a_)(ex:IC->EZ->Prop)(sc:List<|EJ×Fv)(G:Nat)(t:Ff)(W:V->aL->Hp->(aL->Hp->Prop)->Prop):Prop:=∀{aa}{N}{r}{Z}{H}{m}{v}{x}{C},bQ G N->Inv n r.heap Z H->Fm n r.heap Z H aa sc m->Rep n.w r.heap Z v x->W x m H C->Ey (EE n.prog n.w) N (Ni t aa v) (ResG n ex aa sc r Z H C) aQ r
def hF(n:a_)(ex:IC->EZ->Prop)(sc:List<|EJ×Fv)(G:Nat)(ts:List Ff)(W:List V->aL->Hp->(aL->Hp->Prop)->Prop):Prop:=∀{aa}{N}{r}{Z}{H}{m}{Y}{z}{C},bQ G N->Inv n r.heap Z H->Fm n r.heap Z H aa sc m->Reps n.w r.heap Z Y z->W z m H C->Ey (EE n.prog n.w) N (NY ((L9 ts aa).map (·.2)) Y) (ResG n ex aa sc r Z H C) aQ r
noncomputable def a5:Ff->Bool|.Starred ..=>EF|_=>Do
theorem nK(h:a5 t=Do):L9 (t::ts) aa=(EF,Ni t aa)::L9 ts aa:=by cases t<;>first|rfl|exact EX h
theorem v':∀{ts}{aa},ts.all a5=Do->(L9 ts aa).length=ts.length/\(L9 ts aa).findIdx? (·.1)=.none:=by intro v;induction v with|nil=>intro aa g;exact⟨rfl,rfl⟩|cons t ts ih=>intro aa h;rw[Jv,Ft]at h;refine aN (ih (aa:=aa) h.2) λJ L=>nK h.1▸⟨by simp[J],by simp[Lo,L]⟩
section
variable{m:aL}
theorem rd(aa:IC)(r:EQ)(Z:EZ->Prop)(H:Hp):eZ aa r Z H r Z H:=⟨rfl,rfl,λd d e d d=>e,λd M=>M,λd M=>.inl M,λd M=>.inl M,λd D e d=>⟨D,e⟩⟩
theorem ResG.up(hex:∀aa d,ex aa d->FA aa d)(j:PX (ex aa) r Z H ae as aq)(o:ResG n ex aa sc ae as aq C () s2):ResG n ex aa sc r Z H C () s2:=by obtain⟨Z2,H2,l2,p2,S,F2,q⟩:=o;exact⟨Z2,H2,l2,v8 (hex aa) j p2 (λp x=>.inl x) F2,S,F2,q⟩
theorem lJ(hi:i<bU.length)(X:sc.lookup (aI i)=j' .local/\ex=LA\/(sc.lookup (aI i)=j' .local\/sc.lookup (aI i)=j' .cell)/\ex=FA):cR n ex sc G (.Name (aI i) ar) λx m H C=>C (m.set i x) H:=by intro aa N r Z H m v x C O I F o h;exact wpAny_assign_Name<|lI hi I F o (X.imp (λq=>⟨q.1,q.2▸rfl⟩) λq=>⟨q.1,q.2▸rfl⟩) λs' j I' Y=>⟨Z,H,_,j,I',Y,h⟩
theorem wa:hF n ex sc G [] λz m H C=>z=[]/\C m H:=by intro aa N r Z H m Y z C O I F o h;obtain⟨rfl,h⟩:=h;refine o.et<|tk ⟨Z,H,m,(Post.refl r Z H).px,I,F,h⟩
theorem wb(hex:∀aa d,ex aa d->FA aa d)(hs:a5 t=Do)(J:cR n ex sc G t W1)(L:hF n ex sc G ts W2):hF n ex sc G (t::ts) λz m H C=>match z with|[]=>False|x::z=>W1 x m H λm H=>W2 z m H C:=by intro aa N r Z H m Y z C O I F o h;rw[nK hs];induction z using JL with|nil=>exact h.elim|cons x z=>refine o.b7 λv Y r1 r2=>?_;refine s0<|E4<|EK (J O I F r1 h) (λp ae q=>?_) λp p x=>x;obtain⟨as,aq,l1,p1,I1,F1,q⟩:=q;exact EK (L O I1 F1 (p1.du I (λd M w=>(F.fa<|hex _ _ w).1 M) r2) q) (λp p q=>ResG.up hex p1 q) λp p x=>x
theorem wc(hex:∀aa d,ex aa d->FA aa d)(hs:ts.all a5=Do)(h:hF n ex sc G ts W):cR n ex sc G (.Tuple ts k ar) λx m H C=>av (bT H x) λz=>z.length=ts.length/\W z m H C:=by intro aa N r Z H m v x C O I F o hq;cases E:bT H x with|none=>rw[E]at hq;exact hq.elim|some z=>rw[E]at hq;refine aN hq λhl hq=>aN (v' (aa:=aa) hs) λe1 e2=>?_;rw[arm_assign_Tuple];refine s0<|Gc ?_;unfold unpack;rw[e2];refine s0<|E4<|rc O.2.2 I o E (hl.trans e1.symm) λY ae j I1 r1=>?_;refine EK (h O I1 (F.post I j) r1 hq) (λp p q=>?_) λp p x=>x;exact ResG.up hex j.px q
end
section
variable{aa:IC}
theorem hH(h:Ey (EE al A) N t C aQ r):Ey (EE al A) N t C aD r:=EK h (λd d x=>x) λd d x=>x.elim
set_option tactic.hygienic true in
def Go(I:Nat->EQ->Prop)(l:Nat)(r:EQ):Prop:=∃y,y<l/\I y r
def jd(al:Hc)(A:F7)(N:GI)(aa:IC)(a:Ff)(it:EI)(Q:EQ->Prop)(K:EQ->Prop)(r:EQ):Prop:=Ey (EE al A) N (Ix it) (λo ae=>match o with|kf=>Q ae|some v=>Ey (EE al A) N (MG a it v) (λd s2=>Ey (EE al A) N (Ni a aa v) (λd=>K) aQ s2) aQ ae) aQ r
set_option tactic.hygienic true in
def wd(R:Nj->EQ->Prop)(I:Nat->EQ->Prop)(l:Nat)(w:Flow)(r:EQ):Prop:=match w with|.next=>Go I l r|.ret v=>R (.ok<|.ret v) r|_=>False
def we(al:Hc)(A:F7)(N:GI)(aa:IC)(body:List K_)(R:Nj->EQ->Prop)(I:Nat->EQ->Prop)(l:Nat)(r:EQ):Prop:=Ey (EE al A) N (execs body aa) (wd R I l) aQ r
set_option tactic.hygienic true in
theorem wg(I:Nat->EQ->Prop)(e:∀l r,I l r->jd al A N aa a it (R<|.ok .next) (we al A N aa body R I l) r)(l:Nat)(h:I l r):Hl (EE al A) N (.forLoop a it body [] aa) R r:=by refine codeAny_loop' rfl I (λl r hI=>?_) l h;show Ey _ _ ((forTurn a it body [] aa).onRaise λx=>do MH x aa;KG x) _ _ r;refine MY<|hH ?_;dsimp only[forTurn];refine s0<|Gc<|s0<|wpAny_onRaise<|EK (e l r hI) (λo ae J=>?_) λd d x=>x.elim;induction o with|none=>exact tk<|.inr ⟨rfl,codeAny_block<|ML J⟩|some v=>refine s0<|EK J (λd s2 L=>s0<|EK L (λd s3 b=>s0<|EK b (λw s4 h4=>?_) λd d x=>x) λd d x=>x) λd d x=>x;induction w with|next=>exact tk<|.inl ⟨rfl,h4⟩|cont=>exact h4.elim|brk=>exact h4.elim|ret v=>exact tk h4
end
inductive ResI(C:a_)(aq:Expr)(s:Shared)(Z:Addr->Prop)(H:Hp)(Q:List V->Hp->Prop)(it:Value)(s2:Shared):Prop|mk(Z2:Addr->Prop)(H2:Hp)(xs:List V)(I:Addr)(aj:List Addr)(J:Nat->Heap->(Addr->Prop)->Prop):it=.ref I->Post s Z H s2 Z2 H2->Inv C s2.heap Z2 H2->Itr C aq I aj xs J->J 0 s2.heap Z2->(∀a∈aj,s.heap.get? a=.none/\¬Z2 a/\H2 a=.none)->Q xs H2->ResI C aq s Z H Q it s2
def cG(n:a_)(sc:List<|EJ×Fv)(G:Nat)(aj e:Ff)(W:aL->Hp->(List V->Hp->Prop)->Prop):Prop:=∀{aa}{N}{r}{Z}{H}{m}{C},bQ G N->Inv n r.heap Z H->Fm n r.heap Z H aa sc m->W m H C->Ey (EE n.prog n.w) N (Hb e aa) (λv ae=>Ey (EE n.prog n.w) N (Ju v) (ResI n aj r Z H C) aQ ae) aQ r
section
variable{z:List V}{f:Nat->F6->(EZ->Prop)->Prop}{i:Nat}{ex:EZ->Prop}
theorem Itr.keep(T:Itr n aj I A z f)(a:f i r.heap Z)(hI:Inv n r.heap Z H)(hp:∀d∈A,¬Z d/\H d=kf)(j:PX ex r Z H ae as aq)(E:∀d∈A,¬ex d)(hz:∀d,Z d->¬ex d):f i ae.heap as/\∀d∈A,¬as d/\aq d=.none:=by
 refine⟨T.mono a j.b0 λd D q e=>?_,λd ha=>?_⟩
 .refine q.elim (λq=>?_) λq=>?_;.exact j.keep d D e (hI.zh q)<|hz d q
  .exact j.keep d D e (hp d q).2<|E d q
 .refine ax (T.alive a d ha) λD ho=>⟨λM=>?_,?_⟩
  .rcases j.bz d M with q|q|q;.exact(hp d ha).1 q
   .exact q (hp d ha).2
   .rw[q]at ho;exact aP ho
  .cases e:aq d with|none=>rfl|some x=>
    refine(j.bl d<|by rw[e];simp).elim (λq=>?_) λq=>?_;.exact aJ (hp d ha).2 q
    .rw[q]at ho;exact aP ho
inductive FI(C:a_)(env:Env)(sc:List<|PySem.Str×NameKind)(s:Shared)(Z:Addr->Prop)(H:Hp)(xs:List V)(aj:List Addr)(J:Nat->Heap->(Addr->Prop)->Prop)(W:List V->aL->Hp->Prop)(n:Nat)(s':Shared):Prop|mk(i:Nat)(Z':Addr->Prop)(H':Hp)(l':aL):eZ env s Z H s' Z' H'->Inv C s'.heap Z' H'->Fm C s'.heap Z' H' env sc l'->J i s'.heap Z'->(∀a∈aj,¬Z' a/\H' a=.none)->i<=xs.length->n=xs.length-i->W (xs.drop i) l' H'->FI C env sc s Z H xs aj J W n s'
theorem lK(E:z[i]?=j' x):z.drop i=x::z.drop (i+1):=by have ad:i<z.length:=(EN.mp E).1;rw[GH ad];congr 1;exact(EN.mp E).2
set_option tactic.hygienic true in
theorem wh(hG:cR n FA sc G aj WG)(O:bQ G N)(T:Itr n aj I A z f)(e:∀d∈A,¬FA aa d)(hd:∀d,d∈A->FA aa d\/r.heap.get? d=kf)(j:eZ aa r Z H ae as aq)(I':Inv n ae.heap as aq)(Y:Fm n ae.heap as aq aa sc m)(a:f i ae.heap as)(am:∀d∈A,¬as d/\aq d=kf)(hi:i<=z.length)(hw:fN WB WG (z.drop i) m aq C){Q K:EQ->Prop}(h0:∀s',ResS n aa sc r Z H C .next s'->Q s')(J:∀X Z5 H5 l5,i<z.length->eZ aa r Z H X Z5 H5->Inv n X.heap Z5 H5->Fm n X.heap Z5 H5 aa sc l5->f (i+1) X.heap Z5->(∀d∈A,¬Z5 d/\H5 d=kf)->(WB l5 H5 λw m H=>match w with|.nx=>fN WB WG (z.drop<|i+1) m H C|.rt v=>C (.rt v) m H)->K X):jd n.prog n.w N aa aj (.ref I) Q K ae:=by
 have l:∀d,as d->d∉A:=λd M y=>(am d y).1 M;refine EK (T.next O.2.2 I' am a hi) (λo s3 b=>?_) λp p x=>x;rcases E:z[i]? with _|x;.rw[E]at b;refine aZ b λs p3 I3=>?_;clear b;subst s;rw[G5<|Ga.mp E]at hw;have R:=Y.px I' p3 (λd w y=>e d y w) l;exact h0 s3 ⟨as,aq,m,.nx,kb j p3 hd R,I3,R,trivial,hw⟩
 .rw[E]at b;obtain⟨v,rfl,b⟩:=b;refine EK b (λp s4 h4=>?_) λp p x=>x;refine b5 h4 λZ4 p4 I4 L r4=>?_;rw[lK E]at hw;have F4:=Y.px I' p4 (λd w y=>e d y w) l;have S:∀d∈A,¬Z4 d/\aq d=.none:=λd ha=>by
   refine ax (T.alive a d ha) λD ho=>⟨λM=>?_,(am d ha).2⟩;rcases p4.bz d M with q|q|q;.exact(am d ha).1 q
   .exact q (am d ha).2
   .rw[q]at ho;exact aP ho
  refine EK (hG O I4 F4 r4 hw) (λp X h5=>?_) λp p x=>x;obtain⟨Z5,H5,l5,p5,u,F5,q5⟩:=h5;refine aN (T.keep L I4 S p5 e λd M w=>(F4.fa w).1 M) λac af=>J X Z5 H5 l5 (EN.mp E).1 (hE (kb j p4 hd F4) p5 F5) u F5 ac af q5
theorem wi(hI:cG n sc G aj iter d_)(hG:cR n FA sc G aj WG)(ab:eU n sc G body WB)(hs:∀aa x,Gw iter aa x=pure x)(O:bQ G N)(I0:Inv n r.heap Z H)(F0:Fm n r.heap Z H aa sc m)(h:d_ m H λz H=>fN WB WG z m H C):Ey (EE n.prog n.w) N (exec (.For aj iter body [] ar) aa) (ResS n aa sc r Z H C) aQ r:=by
 refine wpAny_For (EK (hI O I0 F0 h) (λv ae J=>EK J (λit s2 L=>?_) λp p x=>x) λp p x=>x)<|hs aa;obtain⟨Z2,H2,z,I,A,f,rfl,P2,S,T,Q,hp,hq⟩:=L;have e:∀d∈A,¬FA aa d:=λd ha w=>by refine aZ (F0.fa w) λp p s=>ax s λD ho=>?_;rw[(hp d ha).1]at ho;exact aP ho
 refine wg (FI n aa sc r Z H z A f λz m H=>fN WB WG z m H C) (λl s' t=>?_) z.length ⟨0,Z2,H2,m,P2.px,S,F0.post I0 P2,Q,λd ha=>(hp d ha).2,E8 _,rfl,hq⟩;obtain⟨i,Z',H',l',j,I',Y,a,am,hi,rfl,hw⟩:=t;refine wh hG O T e (λd ha=>.inr (hp d ha).1) j I' Y a am hi hw (λs' o=>o) λX Z5 H5 l5 ad R u F5 ac af q5=>EK (ab O u F5 q5) (λw s6 h6=>?_) λp p x=>x;obtain⟨b,H6,l6,fl,y,E,q,hf,q6⟩:=h6;have K:=hE R y q;induction w<;>induction fl<;>first|exact HQ hf|skip
 .refine aN (T.keep ac u af y e λd M w=>(F5.fa w).1 M) λal an=>⟨z.length-(i+1),Jz ad<|Fq i,i+1,b,H6,l6,K,E,q,al,an,ad,rfl,q6⟩
 .exact⟨b,H6,l6,.rt _,K,E,q,hf,q6⟩
end
noncomputable def ek(aa:IC):List (EJ×Fv)->List (EJ×EZ)->List (EJ×EZ)|[],ao=>ao|(l,k)::o,ao=>if(k==IW)=Do then ek aa o ((l,(aa.cells.lookup l).getD 0)::ao)else ek aa o ao
theorem kc(h:∀x∈scope.names,x.2=.free->(aa.cells.lookup x.1).isSome=Do):closureFor scope aa=pure (ek aa scope.names []):=by
 have go:∀ns ao,(∀x∈ns,x.2=.free->(aa.cells.lookup x.1).isSome=Do)->(forIn ns ao λ(x:EJ×Fv)(cs:List<|EJ×EZ)=>(match x with|(f,a)=>if(a==IW)=Do then(do let c<-cellOf aa f;pure<|Io<|(f,c)::cs)else pure<|Io cs:J2 _):J2 _)=pure (ek aa ns ao):=by intro ns;induction ns with|nil=>intro ao _;rfl|cons u ns ih=>
   intro ao hy;obtain⟨l,k⟩:=u;rw[List.forIn_cons];dsimp only[ek];by_cases X:(k==IW)=Do
   .refine ax (FZ.mp<|hy (l,k) (.head _)<|beq_iff_eq.mp X) λc hc=>?_;have e:cellOf aa l=pure c:=by unfold cellOf;rw[show aa.cells.lookup l=j' c from hc]
    simp only[X,if_true,e,pure_bind];rw[ih _ λx E=>hy x<|.tail _ E,show aa.cells.lookup l=j' c from hc];rfl
   .simp only[X,Fh,if_false,pure_bind];exact ih _ λx E=>hy x<|.tail _ E
 have:=go scope.names [] h;dsimp only[closureFor];dsimp only[bind_pure_comp]at this⊢;first|exact this.symm▸rfl|(refine Eq.trans (aY _ ?_)<|map_pure _ _;exact this)|exact this
theorem re:∀ns ao,(ns.map (·.1)).Nodup->(∀x∈ns,x.2=.free->(aa.cells.lookup x.1).isSome=Do)->(∀x∈ns,ao.lookup x.1=kf)->∀x,(ek aa ns ao).lookup x=if ns.lookup x=j' .free then aa.cells.lookup x else ao.lookup x:=by intro ns;induction ns with|nil=>intro ao _ _ _ x;rfl|cons u ns ih=>
  intro ao av hc j x;obtain⟨u,k⟩:=u;rw[Gq,FH]at av;have a:∀M∈ns,(M.1==u)=false:=λM hz=>by cases e:M.1==u with|false=>rfl|true=>exact aJ (beq_iff_eq.mp e▸Fx (f:=(·.1)) hz) av.1
  have S:x=u->ns.lookup x=.none:=λe=>by cases q:ns.lookup x with|none=>rfl|some k'=>have:=Fx (f:=(·.1))<|Is q;rw[e]at this;exact aJ this av.1
  dsimp only[ek];by_cases X:(k==IW)=Do;.rw[aF X,ih _ av.2 (λM hz=>hc M<|.tail _ hz) λM hz=>by rw[Fw,a M hz];exact j M<|.tail _ hz,Fw,Fw];cases e:x==u with|true=>have e':=beq_iff_eq.mp e;refine ax (FZ.mp<|hc (u,k) (.head _)<|beq_iff_eq.mp X) λc ar=>?_;rw[S e',aC<|by trivial,aF<|by rw[beq_iff_eq.mp X],e',show aa.cells.lookup u=j' c from ar];rfl|false=>rfl
  .rw[aC X,ih _ av.2 (λM hz=>hc M<|.tail _ hz) λM hz=>j M<|.tail _ hz,Fw];cases e:x==u with|true=>rw[S<|beq_iff_eq.mp e,aC<|by trivial,aC<|by intro q;obtain rfl:=EA q;exact X rfl]|false=>rfl
noncomputable def bL(sc ns:List<|EJ×Fv):List<|EJ×Fv:=ns.map λ(l,k)=>if(k==IW&&sc.lookup l==j' .cell)=Do then(l,.cell)else(l,k)
theorem rf(sc:List<|EJ×Fv):∀ns x,(bL sc ns).lookup x=(ns.lookup x).map λk=>if(k==IW&&sc.lookup x==j' .cell)=Do then .cell else k:=by intro v;induction v with|nil=>intro x;exact rfl|cons hd o m=>
  obtain⟨l,k⟩:=hd;intro x;have ih:=m x;dsimp only[bL]at ih⊢;rw[Gq];by_cases hc:(k==IW&&sc.lookup l==j' .cell)=Do;.simp only[hc,if_true];rw[Fw,Fw];cases e:x==l with|true=>rw[<-beq_iff_eq.mp e]at hc;simp only[I5,hc,if_true]|false=>exact ih
  .simp only[hc,Fh,if_false];rw[Fw,Fw];cases e:x==l with|true=>rw[<-beq_iff_eq.mp e]at hc;simp only[I5,hc,Fh,if_false]|false=>exact ih
theorem wj(X:aa.scope.kind=.function)(hn:aa.scope.names=sc):(Nk scope aa).names=bL sc scope.names:=by dsimp only[Nk,bL];have e:∀k,aa.kindOf k=sc.lookup k:=λk=>hn▸rfl;simp only[X,e,beq_self_eq_true,Bool.and_true]
def je(n:a_)(sc:List<|EJ×Fv)(G:Nat)(f:List Ff)(W:aL->Hp->(Bool->Hp->Prop)->Prop):Prop:=∀{aa}{N}{r}{Z}{H}{m}{C},bQ G N->Inv n r.heap Z H->Fm n r.heap Z H aa sc m->W m H C->Ey (EE n.prog n.w) N (forIn f Do λc o=>if o=Do then do let ok<-Od c aa<|Hb c aa;pure (Io ok)else pure<|Io o) (Res n RE r Z H C) aQ r
section
variable{G:Nat}
theorem rg:je n sc G [] λd H C=>C Do H:=by intro aa N r Z H m C O I F h;exact wpAny_tests_nil<|cQ I rfl h
theorem wk(J:dE n sc G c W):je n sc G [c] W:=by intro aa N r Z H m C O I F h;exact wpAny_tests_one<|J O I F h
end
section
variable{aa:IC}
set_option tactic.hygienic true in
def jf(s a iter:Ff)(f:List Ff)(gens:List LH)(scope:L_)(ar:J3)(k:Nat)(it ao:EI)(aa:IC):Prop:=NG (.ListComp s gens scope ar) k it ao aa=do Ku iter.pos match<-Ix it with
   |kf=>pure<|.done .next|some v=>
    MG a it v
    Ni a aa v let mut ok:=Do
    for c in f do if ok then ok<-Od c aa<|Hb c aa
    if ok then(do let _<-Hg (.builtin "list.append") [ao,<-Hb s aa])
    again<|.compLoop (.ListComp s gens scope ar) k it ao aa
theorem wl(s a iter:Ff)(f:List Ff)(scope:L_)(ar:J3)(it ao:EI)(aa:IC):jf s a iter f [⟨a,iter,f,0⟩] scope ar 0 it ao aa:=by unfold jf;rfl
theorem wm(g:LH)(s a iter:Ff)(f:List Ff)(scope:L_)(ar:J3)(it ao:EI)(aa:IC):jf s a iter f [g,⟨a,iter,f,0⟩] scope ar 1 it ao aa:=by unfold jf;rfl
def wn(al:Hc)(A:F7)(N:GI)(ao:EI)(I:Nat->EQ->Prop)(l:Nat)(x:EI)(r:EQ):Prop:=Ey (EE al A) N (Hg (.builtin "list.append") [ao,x]) (λd=>Go I l) aQ r
def rh(al:Hc)(A:F7)(N:GI)(aa:IC)(s:Ff)(ao:EI)(I:Nat->EQ->Prop)(l:Nat)(ok:Bool)(r:EQ):Prop:=if ok=Do then Ey (EE al A) N (Hb s aa) (wn al A N ao I l) aQ r else Go I l r
def wo(al:Hc)(A:F7)(N:GI)(aa:IC)(s:Ff)(f:List Ff)(ao:EI)(I:Nat->EQ->Prop)(l:Nat)(r:EQ):Prop:=Ey (EE al A) N (forIn f Do λc o=>if o=Do then do let ok<-Od c aa<|Hb c aa;pure (Io ok)else pure<|Io o) (rh al A N aa s ao I l) aQ r
set_option tactic.hygienic true in
theorem wp(hT:jf s a iter f gens scope ar k it ao aa)(I:Nat->EQ->Prop)(e:∀l r,I l r->jd al A N aa a it (R<|.ok .next) (wo al A N aa s f ao I l) r)(l:Nat)(h:I l r):Hl (EE al A) N (.compLoop (.ListComp s gens scope ar) k it ao aa) R r:=by refine Of rfl I (λl r hI=>?_) l h;show Ey _ N ((NG (.ListComp s gens scope ar) k it ao aa).onRaise λx=>do MH x aa;KG x) _ _ r;refine MY<|hH ?_;rw[hT];refine s0<|Gc<|s0<|EK (e l r hI) (λo ae J=>?_) λd d x=>x;induction o with|none=>exact tk J|some v=>refine s0<|EK J (λd s2 L=>s0<|EK L (λd s3 b=>s0<|EK b (λok s4 h4=>?_) λd d x=>x) λd d x=>x) λd d x=>x;unfold rh at h4;induction ok with
  |false=>dsimp only[Fh,if_false]at h4⊢;first|exact tk ⟨rfl,h4⟩|exact cb<|tk ⟨rfl,h4⟩
  |true=>dsimp only[if_true]at h4⊢;refine s0<|s0<|EK h4 (λx X h5=>s0<|EK h5 (λd s6 h6=>?_) λd d x=>x) λd d x=>x;first|exact tk<|tk ⟨rfl,h6⟩|exact tk ⟨rfl,h6⟩
def wq(al:Hc)(A:F7)(N:GI)(Q:EZ)(I:Nat->EQ->Prop)(l:Nat)(kv n:EI)(r:EQ):Prop:=Ey (EE al A) N (Oz Q kv n) (λd=>Go I l) aQ r
def wr(al:Hc)(A:F7)(N:GI)(aa:IC)(f:Ff)(Q:EZ)(I:Nat->EQ->Prop)(l:Nat)(kv:EI)(r:EQ):Prop:=Ey (EE al A) N (Hb f aa) (wq al A N Q I l kv) aQ r
def wu(al:Hc)(A:F7)(N:GI)(aa:IC)(m f:Ff)(Q:EZ)(I:Nat->EQ->Prop)(l:Nat)(r:EQ):Prop:=Ey (EE al A) N (Hb m aa) (wr al A N aa f Q I l) aQ r
set_option tactic.hygienic true in
theorem wv(I:Nat->EQ->Prop)(e:∀l r,I l r->jd al A N aa a it (R<|.ok .next) (wu al A N aa m f Q I l) r)(l:Nat)(h:I l r):Hl (EE al A) N (.compLoop (.DictComp m f [⟨a,iter,[],0⟩] scope ar) 0 it (.ref Q) aa) R r:=by refine Of rfl I (λl r hI=>?_) l h;show Ey _ N ((NG (.DictComp m f [⟨a,iter,[],0⟩] scope ar) 0 it (.ref Q) aa).onRaise λx=>do MH x aa;KG x) _ _ r;refine MY<|hH ?_;rw[compTurn_dict];refine s0<|Gc<|s0<|EK (e l r hI) (λo ae J=>?_) λd d x=>x;induction o with|none=>exact tk J|some v=>refine s0<|EK J (λd s2 L=>s0<|EK L (λd s3 b=>?_) λd d x=>x) λd d x=>x;dsimp only;rw[List.forIn_nil];refine cb<|ie rfl<|s0<|s0<|EK b (λkv s4 h4=>s0<|E4<|EK h4 (λn X h5=>s0<|Gc<|E4<|EK h5 (λd s6 h6=>?_) λd d x=>x) λd d x=>x) λd d x=>x;exact tk ⟨rfl,h6⟩
end
section
variable{H:Hp}
theorem Inv.freeze(I:Inv n h Z H)(hD:H Q=kf)(ho:∃D,h.get? Q=j' D):Inv n h (λd=>Z d\/d=Q) H where
 base:=I.base
 d6:=λd M=>M.elim (I.d6 d) λe=>e▸ho
 zb:=λd D e=>.inl<|I.zb d D e
 hz:=λd ha M=>M.elim (I.hz d ha) λe=>ha<|e▸hD
 obj:=λd D e=>(I.obj d D e).ext (λp M=>.inl M) λp p e=>e
end
def ri(sc:List<|EJ×Fv)(m:aL):Prop:=∀i v,m i=j' v->sc.lookup (aI i)≠j' .local
section
variable{ex:EZ->Prop}
theorem Fm.base(F:Fm n r.heap Z H aa sc m)(hl:ri sc m)(I:Inv n r.heap Z H)(j:PX ex r Z H ae as aq)(E:∀d,FA aa d->d≠aa.locals->¬ex d)(hz:∀d,Z d->¬ex d)(F2:Fm n ae.heap as aq aa sc l2):Fm n ae.heap as aq aa sc m:=by refine aA F2.ns λy hn p=>⟨F2.kind,F2.names,F2.globals,F2.builtins,⟨y,hn,λi v e k=>aJ k<|hl i v e⟩,λi v e k=>?_,F2.bc,F.low,F2.lz,F2.lh,F2.cz,F2.apart⟩;refine cM (F.cell i v e k) λc va J s b=>aA s λD ho hd=>dZ c va J ⟨D,j.keep c D ho (F.cz _ c J).2.1<|E c (.inr ⟨_,J⟩) (F.cz _ c J).2.2.1,hd⟩<|j.rep I hz b
theorem dU(h:l<=aR):l<=sizeLine:=by rw[Gp];unfold aR at h;exact aB 0x3b48000001560a7a1201160 rfl h
theorem g6(j:PX e s6 b H6 s7 Z7 H7)(ho:∃D,s6.heap.get? Q=j' D)(hz:¬b Q)(hh:H6 Q=kf):¬Z7 Q/\H7 Q=.none:=by
 refine ax ho λD ho=>⟨λM=>?_,?_⟩
 .rcases j.bz Q M with q|q|q;.exact hz q
  .exact q hh
  .rw[q]at ho;exact aP ho
 .cases e1:H7 Q with|none=>rfl|some x=>
   refine(j.bl Q<|by rw[e1];simp).elim (λq=>?_) λq=>?_;.exact aJ hh q
   .rw[q]at ho;exact aP ho
end
structure It2(C:a_)(aq:Expr)(I:Addr)(aj:List Addr)(own:Addr->Prop)(xs:List V)(G:Nat->Heap->(Addr->Prop)->Hp->Prop):Prop where
 self:∀{A}{s}{Z}{H}{i}{Q},G i s.heap Z H->Q (.ref I) s->wpAny (model C.prog C.w) A (pyIter<|.ref I) Q aQ s
 keep:∀{s s1}{Z Z1}{H H1}{ex}{i},G i s.heap Z H->Inv C s.heap Z H->PX ex s Z H s1 Z1 H1->(∀a,own a->¬ex a)->(∀a,Z a->¬ex a)->G i s1.heap Z1 H1
 next:∀{A}{s}{Z}{H}{i},A.handled=.none->Inv C s.heap Z H->G i s.heap Z H->i<=xs.length->wpAny (model C.prog C.w) A (pyNext<|.ref I) (λr s1=>match xs[i]? with|Option.none=>r=.none/\PX (·∈aj) s Z H s1 Z H/\Inv C s1.heap Z H|some x=>∃v,r=some v/\wpAny (model C.prog C.w) A (letOwnedTupleGo aq (.ref I) v) (λb s2=>∃Z2,PX (·∈aj) s Z H s2 Z2 H/\Inv C s2.heap Z2 H/\G (i+1) s2.heap Z2 H/\Rep C.w s2.heap Z2 v x) aQ s1) aQ s
 ok:∀{h}{Z}{H}{i},G i h Z H->∀a,own a->¬Z a/\H a=.none/\∃o,h.get? a=some o
 sub:∀a∈aj,own a
section
variable{f:Nat->F6->(EZ->Prop)->Prop}
set_option tactic.hygienic true in
theorem It2.of(T:Itr n aj I A z f):It2 n aj I A (·∈A) z λi h Z H=>f i h Z/\∀d∈A,¬Z d/\H d=kf where
 self:=λh q=>T.self h.1 q
 keep:=λh hI j E hz=>T.keep h.1 hI h.2 j E hz
 next:=λ{N r Z H i}hh hI h hi=>by refine EK (T.next hh hI h.2 h.1 hi) (λo ae J=>?_) λp p x=>x;cases E:z[i]? with|none=>rw[E]at J;exact J|some x=>
   rw[E]at J;obtain⟨v,rfl,J⟩:=J;refine bm v rfl<|EK J (λp s2 L=>?_) λp p x=>x;refine b5 L λZ2 j S a o=>ee Z2 j S ⟨a,λd ha=>⟨λM=>?_,(h.2 d ha).2⟩⟩ o;refine ax (T.alive h.1 d ha) λD ho=>?_;rcases j.bz d M with q|q|q;.exact(h.2 d ha).1 q
   .exact q (h.2 d ha).2
   .rw[q]at ho;exact aP ho
 ok:=λh d ha=>⟨(h.2 d ha).1,(h.2 d ha).2,T.alive h.1 d ha⟩
 sub:=λd ha=>ha
end
structure Keeps(C:a_)(D:Addr)(an:Heap->(Addr->Prop)->Prop):Prop where
 alive:∀{h}{Z},an h Z->∃o,h.get? D=some o
 keep:∀{ex}{s s1}{Z Z1}{H H1},an s.heap Z->Inv C s.heap Z H->PX ex s Z H s1 Z1 H1->¬ex D->(∀a,Z a->¬ex a)->H D=.none->an s1.heap Z1
def LX(A:F7)(Q:EZ)(Y:List EI)(ao:List V)(k:Nat)(h:F6)(Z:EZ->Prop):Prop:=h.get? Q=j' (FF "list" Y.toArray k)/\Reps A h Z Y ao
theorem LX.keeps:Keeps n Q<|LX n.w Q Y ao k:=⟨λx=>⟨_,x.1⟩,λx I j hd hz hh=>⟨j.keep _ _ x.1 hh hd,j.du I hz x.2⟩⟩
set_option genInjectivity false in
structure LP where
 C:a_
 env:Env
 sc:List (PySem.Str×NameKind)l:aL
 D:Addr
 aq:Expr
 I:Addr
 aj:List Addr
 own:Addr->Prop
 xs:List V
 G:Nat->Heap->(Addr->Prop)->Hp->Prop
 B:Shared->(Addr->Prop)->Hp->Prop
 rel:aL->Prop
structure LC(p:LP):Prop where
 T:It2 p.C p.aq p.I p.aj p.own p.xs p.G
 pf:∀a,p.own a->¬FA p.env a
 df:¬FA p.env p.D
 dp:¬p.own p.D
 base:∀{s4 s5}{Z4 Z5}{H4 H5}{l5},p.rel l5->Fm p.C s4.heap Z4 H4 p.env p.sc p.l->Inv p.C s4.heap Z4 H4->PX (LA p.env) s4 Z4 H4 s5 Z5 H5->(∀a,Z4 a->¬LA p.env a)->Fm p.C s5.heap Z5 H5 p.env p.sc l5->Fm p.C s5.heap Z5 H5 p.env p.sc p.l
 hB:∀{s1 s2}{Z1 Z2}{H1 H2}{ex},p.B s1 Z1 H1->Inv p.C s1.heap Z1 H1->PX ex s1 Z1 H1 s2 Z2 H2->(∀a,Z1 a->¬ex a)->(∀a,ex a->a=p.env.locals\/a∈p.aj\/a=p.D)->p.B s2 Z2 H2
structure LS(p:LP)(an:Heap->(Addr->Prop)->Prop)(s:Shared)(Z:Addr->Prop)(H:Hp):Prop where
 k:Keeps p.C p.D an
 b:p.B s Z H
 i:Inv p.C s.heap Z H
 f:Fm p.C s.heap Z H p.env p.sc p.l
 x:an s.heap Z
 z:¬Z p.D
 h:H p.D=.none
section
variable{an:F6->(EZ->Prop)->Prop}{r ae:EQ}{Z as:EZ->Prop}{H aq:Hp}{ex:EZ->Prop}{N:GI}{G i:Nat}
theorem LS.px(c:LC j)(af:LS j an r Z H)(q:PX ex r Z H ae as aq)(i1:Inv j.C ae.heap as aq)(hz:∀d,Z d->¬ex d)(E:∀d,ex d->d=j.env.locals\/d∈j.aj)(hd:¬ex j.D)(z:Fm j.C ae.heap as aq j.env j.sc j.l):LS j an ae as aq:=have st:=g6 q (af.k.alive af.x) af.z af.h
 ⟨af.k,c.hB af.b af.i q hz λd e=>(E d e).imp_right .inl,i1,z,af.k.keep af.x af.i q hd hz af.h,st.1,st.2⟩
set_option tactic.hygienic true in
theorem LS.post(c:LC j)(af:LS j an r Z H)(q:Post r Z H ae as aq)(i1:Inv j.C ae.heap as aq):LS j an ae as aq:=af.px c (ex:=λd=>False) q.px i1 (λd d x=>x) (λd x=>x.elim) (λx=>x)<|af.f.post af.i q
set_option tactic.hygienic true in
theorem LS.turn(c:LC j)(af:LS j an r Z H)(a:j.G i r.heap Z H)(O:bQ G N)(hi:i<=j.xs.length)(hG:cR j.C LA j.sc G j.aq WG)(S:∀{x}{H}{C},WG x j.l H C->WG x j.l H λl' H'=>j.rel l'/\C l' H'){W:V->aL->Hp->Prop}{Q K:EQ->Prop}(h0:j.xs.length<=i->∀ae,LS j an ae Z H->Q ae)(hw:∀x,j.xs[i]?=j' x->WG x j.l H (W x))(J:∀x s3 Z3 H3 l3,j.xs[i]?=j' x->LS j an s3 Z3 H3->j.G (i+1) s3.heap Z3 H3->Fm j.C s3.heap Z3 H3 j.env j.sc l3->W x l3 H3->K s3):jd j.C.prog j.C.w N j.env j.aq (.ref j.I) Q K r:=by
 have hz:∀d,Z d->¬d∈j.aj:=λd M y=>(c.T.ok a d<|c.T.sub d y).1 M;have nx:∀{ae as},PX (·∈j.aj) r Z H ae as H->Inv j.C ae.heap as H->LS j an ae as H:=λ{ae as}q i1=>af.px c q i1 hz (λd y=>.inr y) (λy=>c.dp<|c.T.sub _ y)<|af.f.px af.i q (λd w y=>c.pf d (c.T.sub d y) w) hz;refine EK (c.T.next O.2.2 af.i a hi) (λo ae h=>?_) λp p x=>x;rcases E:j.xs[i]? with _|x;.rw[E]at h;refine aZ h λs q i1=>?_;clear h;subst s;exact h0 (Ga.mp E) ae<|nx q i1
 .rw[E]at h;obtain⟨v,rfl,h⟩:=h;refine EK h (λp s2 h=>?_) λp p x=>x;refine b5 h λZ2 q i2 L o=>?_;have b:=nx q i2;refine EK (hG O i2 b.f o<|S<|hw x E) (λp s3 R=>?_) λp p x=>x;obtain⟨Z3,H3,l3,f,i3,u,e3,k⟩:=R;have hl:∀d,Z2 d->¬LA j.env d:=λd M w=>(b.f.fa<|.inl w).1 M;exact J x s3 Z3 H3 l3 E (b.px c f i3 hl (λd e=>.inl e) (λe=>c.df<|.inl e)<|c.base e3 b.f i2 f hl u) (c.T.keep L i2 f (λd y e=>c.pf d y<|.inl e) hl) u k
theorem LS.step(c:LC j)(af:LS j an r Z H)(a:j.G i r.heap Z H){l3:aL}(w:Fm j.C r.heap Z H j.env j.sc l3){α β:Type}{Rl:F6->(EZ->Prop)->α->β->Prop}{code:J2 α}{C:β->Hp->Prop}{K:α->EQ->Prop}(hw:Ey (EE j.C.prog j.C.w) N code (Res j.C Rl r Z H C) aQ r)(k:∀v s4 Z4 H4 u,Post r Z H s4 Z4 H4->LS j an s4 Z4 H4->j.G i s4.heap Z4 H4->Fm j.C s4.heap Z4 H4 j.env j.sc l3->Rl s4.heap Z4 v u->C u H4->K v s4):Ey (EE j.C.prog j.C.w) N code K aQ r:=by refine EK hw (λv s4 h=>?_) λd d x=>x;obtain⟨Z4,H4,u,q,i4,o,h⟩:=h;exact k v s4 Z4 H4 u q (af.post c q i4) (c.T.keep (ex:=λd=>False) a af.i q.px (λd d x=>x) λd d x=>x) (w.post af.i q) o h
theorem LS.put(c:LC j)(af:LS j an r Z H)(a:j.G i r.heap Z H)(k:Keeps j.C j.D l)(hs:∀d,d≠j.D->h'.get? d=r.heap.get? d)(x:l h' Z):LS j l {r with heap:=h',toks:=t} Z H/\j.G i h' Z H:=by have q:PX (λd=>d=j.D) r Z H {r with heap:=h',toks:=t} Z H:=⟨rfl,rfl,λd D e G E=>(hs d E).trans e,λG M=>M,λG M=>.inl M,λG M=>.inl M,λd D e E=>⟨D,(hs d E).trans e⟩⟩;have hz:∀d,Z d->¬d=j.D:=λd M e=>af.z<|e▸M;refine⟨⟨k,c.hB af.b af.i q hz λd e=>.inr<|.inr e,af.i.ext2 (λG M=>M) (λG M=>.inl M) λp D y e=>(hs p λA=>y.elim (λy=>hz p y A) λy=>y<|A▸af.h).trans e,af.f.px af.i q (λd w e=>c.df<|e▸w) hz,x,af.z,af.h⟩,c.T.keep a af.i q (λd y e=>c.dp<|e▸y) hz⟩
theorem LS.add(c:LC j){Y:List EI}{ao:List V}{k:Nat}(af:LS j (LX j.C.w j.D Y ao k) r Z H)(a:j.G i r.heap Z H){v:EI}{u:V}(o:Rep j.C.w r.heap Z v u)(ac:ao.length<=aR){K:EQ->Prop}(q:∀s' k',LS j (LX j.C.w j.D (Y++[v]) (ao++[u]) k') s' Z H->j.G i s'.heap Z H->K s'):Ey (EE j.C.prog j.C.w) N (Hg (.builtin "list.append") [.ref j.D,v]) (λp=>K) aQ r:=by refine wpAny_list_append_plain ⟨k,af.x.1⟩ (λh'⟨k',hD⟩hs=>?_)<|Fk▸af.x.2.length▸dU ac;have X:∀d D,Z d->r.heap.get? d=j' D->h'.get? d=j' D:=λd D M e=>(hs.2 d λA=>af.z<|A▸M).trans e;have:=af.put c a (t:=r.toks) (LX.keeps (Y:=Y++[v]) (ao:=ao++[u]) (k:=k')) hs.2 ⟨by rw[hD];simp,(af.x.2.mono (λp M=>M) X).snoc<|o.mono (λp M=>M) X⟩;exact q _ k' this.1 this.2
def eV(WG:V->aL->Hp->(aL->Hp->Prop)->Prop)(y:aL->Hp->(Bool->Hp->Prop)->Prop)(b:aL->Hp->(V->Hp->Prop)->Prop)(m:aL)(x:V)(H:Hp)(kY:V->Hp->Prop)(L:Hp->Prop):Prop:=WG x m H λl' H=>y l' H λp H=>if p then b l' H kY else L H
inductive CI(p:LP)(W:V->Hp->(V->Hp->Prop)->(Hp->Prop)->Prop)(n0:Nat)(Q:List V->Hp->Prop)(n:Nat)(s:Shared):Prop|mk(i:Nat)(Z:Addr->Prop)(H:Hp)(vs:List Value)(acc:List V)(k:Nat):LS p (LX p.C.w p.D vs acc k) s Z H->p.G i s.heap Z H->i<=p.xs.length->n=p.xs.length-i->acc.length<=n0+i->cV W (p.xs.drop i) acc H Q->CI p W n0 Q n s
theorem CI.go(E:j.xs[i]?=j' x)(af:LS j (LX j.C.w j.D Y ao k) r Z H)(a:j.G (i+1) r.heap Z H)(h:ao.length<=n0+(i+1))(q:cV W (j.xs.drop<|i+1) ao H C):Go (CI j W n0 C) (j.xs.length-i) r:=have ad:i<j.xs.length:=(EN.mp E).1
 ⟨j.xs.length-(i+1),Jz ad<|Fq i,i+1,Z,H,Y,ao,k,af,a,ad,rfl,h,q⟩
set_option tactic.hygienic true in
theorem rj(c:LC j)(hG:cR j.C LA j.sc G j.aq WG)(M:je j.C j.sc G f y)(hE:aK j.C j.sc G s b)(O:bQ G N)(hT:jf s j.aq iter f gens scope ar kk (.ref j.I) (.ref j.D) j.env)(S:∀{x}{H}{C},WG x j.l H C->WG x j.l H λl' H'=>j.rel l'/\C l' H'){k0:Nat}(af:LS j (LX j.C.w j.D n m k0) r Z H)(a:j.G 0 r.heap Z H)(aw:m.length+j.xs.length<=aR)(hw:cV (eV WG y b j.l) j.xs m H C)(fin:∀s' Z' H' Y ys k,LS j (LX j.C.w j.D Y ys k) s' Z' H'->ys.length<=m.length+j.xs.length->C ys H'->R (.ok .next) s'):Hl (EE j.C.prog j.C.w) N (.compLoop (.ListComp s gens scope ar) kk (.ref j.I) (.ref j.D) j.env) R r:=by
 refine wp hT (CI j (eV WG y b j.l) m.length C) (λl r t=>?_) j.xs.length ⟨0,Z,H,n,m,k0,af,a,E8 _,rfl,EM _,hw⟩;obtain⟨i,Z,H,Y,ao,k,af,a,hi,rfl,ha,hw⟩:=t;refine af.turn c a O hi hG S (W:=λx l' H=>y l' H λp H=>if p then b l' H λv H=>cV (eV WG y b j.l) (j.xs.drop<|i+1) (ao++[v]) H C else cV (eV WG y b j.l) (j.xs.drop<|i+1) ao H C) (λaa ae af=>?_) (λx E=>?_) λx s3 Z3 H3 l3 E af a w q=>?_;.rw[G5 aa]at hw;exact fin ae Z H Y ao k af (ED ha<|K7 hi _) hw
 .rw[lK E]at hw;exact hw
 .have ad:i<j.xs.length:=(EN.mp E).1;refine af.step c a w (M O af.i w q) λok s4 Z4 H4 p d af a w e q=>?_;subst e;induction ok with|false=>exact CI.go E af a (Iy ha) q|true=>refine af.step c a w (hE O af.i w q) λv X Z5 H5 u d af a w o q=>af.add c a o (ED (ED ha<|K7 hi _) aw) λs' k' af a=>CI.go E af a (EH▸GF ha) q
end
structure CompOk(sc:List<|PySem.Str×NameKind)(scope:Scope)(vars:List Nat):Prop where
 kind:scope.kind=.function
 nodup:(scope.names.map (·.1)).Nodup
 dy:∀x∈scope.names,x.2≠.cell
 free:∀x∈scope.names,x.2=.free->sc.lookup x.1=some .cell
 loc:∀x∈scope.names,x.2=.local->x.1=(".0":PySem.Str)\/∃i∈vars,x.1=aI i
 low:∀i∈vars,i<bU.length
theorem ww(h:i<bU.length):aI i≠(".0":EJ):=by
 have:∀i,i<bU.length->aI i≠(".0":EJ):=by decide+kernel
 exact this i h
theorem rm:∀(vars:List Nat)(m:aL)(i:Nat),i∈vars->m.bh vars i=.none:=by
 have keep:∀(vars:List Nat)(m:aL)(i:Nat),m i=kf->m.bh vars i=.none:=by intro vars;induction vars with|nil=>intro m i h;exact h|cons v vars ih=>intro m i h;refine ih _ _ ?_;unfold aL.del;split<;>simp_all
 intro vars;induction vars with|nil=>intro m i h;exact(Ez h).elim|cons v vars ih=>
  intro m i h;rcases EG.mp h with rfl|h;.exact keep vars _ _<|by unfold aL.del;rw[aF rfl]
  .exact ih _ _ h
set_option tactic.hygienic true in
theorem nL:∀(vars:List Nat)(m:aL)(i:Nat)(v:V),m.bh vars i=j' v->m i=j' v/\i∉vars:=by intro vars;induction vars with|nil=>intro m i v h;exact⟨h,Ez⟩|cons x vars ih=>
  intro m i v h;refine aN (ih _ _ _ h) λJ L=>?_;unfold aL.del at J;split at J;.exact aP J
  .rename_i ne;exact⟨J,by rw[EG];rintro(e|e);exact ne e;exact L e⟩
inductive ResI2(C:a_)(aq:Expr)(env:Env)(s:Shared)(Z:Addr->Prop)(H:Hp)(Q:List V->Hp->Prop)(it:Value)(s2:Shared):Prop|mk(Z2:Addr->Prop)(H2:Hp)(xs:List V)(I:Addr)(aj:List Addr)(own:Addr->Prop)(G:Nat->Heap->(Addr->Prop)->Hp->Prop):it=.ref I->Post s Z H s2 Z2 H2->Inv C s2.heap Z2 H2->It2 C aq I aj own xs G->G 0 s2.heap Z2 H2->(∀a∈aj,s.heap.get? a=.none)->(∀a,own a->¬FA env a)->Q xs H2->ResI2 C aq env s Z H Q it s2
section
variable{r ae s2:EQ}{Z as Z2:EZ->Prop}{H aq H2:Hp}{aa:IC}{sc:List<|EJ×Fv}{m:aL}{scope:L_}{vars:List Nat}
theorem CompOk.lookup_mem(K:CompOk sc scope vars)(h:scope.names.lookup x=j' k):(x,k)∈scope.names:=Is h
theorem CompOk.az(K:CompOk sc scope vars)(F:Fm n r.heap Z H aa sc m):∀x∈scope.names,x.2=.free->(aa.cells.lookup x.1).isSome=true:=λx E hf=>by refine bn (F.bc _<|K.free x E hf) λc v hc d=>hc▸rfl
theorem CompOk.fg(K:CompOk sc scope vars)(E:∀i v,m i=j' v->i<bU.length):ri (bL sc scope.names)<|m.bh vars:=λi v e q=>by
 refine aN (nL vars m i v e) λJ L=>?_;rw[rf]at q;refine aA (EY.mp q) λk X q=>?_;have kl:k=.local:=by
  split at q;.cases q
  .exact q
 refine(K.loc _ (K.lookup_mem X) kl).elim (λay=>?_) λar=>aA ar λa hj b=>?_;.exact ww (E i v J) ay
 .exact L<|nI (E i v J) (K.low a hj) b▸hj
set_option tactic.hygienic true in
theorem CompOk.frame(K:CompOk sc scope vars)(F:Fm n r.heap Z H aa sc m)(I:Inv n r.heap Z H)(hL:r.heap.get? af=kf)(hn:h'.Ns af λG=>kf)(X:∀p D,r.heap.get? p=j' D->h'.get? p=j' D):Fm n h' Z H (compEnvC scope (ek aa scope.names []) af aa) (bL sc scope.names)<|m.bh vars:=by
 have cl:=re (aa:=aa) scope.names [] K.nodup (K.az F) λG G=>rfl;have o:¬Z af:=λM=>by refine ax (I.d6 af M) λD ho=>?_;rw[hL]at ho;exact aP ho
 have u:H af=.none:=by cases e:H af with|none=>rfl|some x=>refine ax (I.alive (d:=af)<|by rw[e];simp) λD ho=>?_;rw[hL]at ho;exact aP ho
 have a:∀l c,(ek aa scope.names []).lookup l=j' c->aa.cells.lookup l=j' c:=λl c e=>by
  rw[cl]at e;split at e;.exact e
  .exact aP e
 have f:∀x,(bL sc scope.names).lookup x=j' .cell->scope.names.lookup x=j' .free/\sc.lookup x=j' .cell:=λx q=>by
  rw[rf]at q;refine aA (EY.mp q) λk X q=>?_;split at q;.rename_i hc;rw[Ft]at hc;rw[beq_iff_eq.mp hc.1]at X;exact⟨X,by simpa using hc.2⟩
  .subst q;exact aJ rfl<|K.dy _<|K.lookup_mem X
 refine⟨?_,wj F.kind F.names,F.globals,F.builtins,⟨_,hn,λi v e k=>aJ k<|K.fg F.low i v e⟩,λi v e k=>?_,λx e=>?_,λi v e=>F.low i v (nL vars m i v e).1,o,u,λl c e=>?_,λl j c e e'=>F.apart l j c (a l c e)<|a j c e'⟩;.show(Nk scope aa).kind=.function;unfold Nk;exact K.kind
 .refine aN (f _ k) λe1 e2=>cM (F.cell i v (nL vars m i v e).1 e2) λc va J s b=>aA s λD ho hd=>dZ c va (by show(ek aa scope.names []).lookup _=_;rw[cl,aF e1];exact J) ⟨D,X _ _ ho,hd⟩<|b.mono (λG M=>M) λd D G e=>X d D e
 .refine aN (f _ e) λe1 e2=>bn (F.bc x e2) λc v J s=>aA s λD ho hd=>⟨c,v,by show(ek aa scope.names []).lookup _=_;rw[cl,aF e1];exact J,D,X _ _ ho,hd⟩
 .refine bM (F.cz l c<|a l c e) λJ L b s=>ax s λD ho=>⟨J,L,λ(e:c=af)=>by rw[e,hL]at ho;exact aP ho,D,X _ _ ho⟩
theorem CompOk.fa(K:CompOk sc scope vars)(F:Fm n r.heap Z H aa sc m)(h:FA (compEnvC scope (ek aa scope.names []) af aa) d):d=af\/FA aa d:=by
 refine h.elim (λh=>?_) λan=>ax an λl h=>?_;.exact .inl h
 .have cl:=re (aa:=aa) scope.names [] K.nodup (K.az F) (λp p=>rfl) l;rw[show(ek aa scope.names []).lookup l=j' d from h]at cl;split at cl;.exact .inr<|.inr ⟨l,cl.symm⟩
  .exact aP cl.symm
theorem wx(I:Inv n r.heap Z H)(D:Obj):Post r Z H {r with heap:=r.heap.push D} Z H/\Inv n (r.heap.push D) Z H:=⟨fP (aO:=r.toks) λd d e=>EV _ e,I.ext λd d e=>EV _ e⟩
theorem ResI.two(F:Fm n r.heap Z H aa sc m)(o:ResI n aj r Z H C it s2):ResI2 n aj aa r Z H C it s2:=by obtain⟨Z2,H2,z,I,A,f,rfl,P,S,T,a,hp,q⟩:=o;refine⟨Z2,H2,z,I,A,(·∈A),_,rfl,P,S,It2.of T,⟨a,λd ha=>(hp d ha).2⟩,λd ha=>(hp d ha).1,λd ha w=>?_,q⟩;refine aZ (F.fa w) λp p s=>ax s λD ho=>?_;rw[(hp d ha).1]at ho;exact aP ho
theorem kg(P:Post r Z H ae as aq)(ha:ae.heap.get? d=kf):r.heap.get? d=.none:=by cases e:r.heap.get? d with|none=>rfl|some D=>refine ax (P.alive d D e) λo' ab=>?_;rw[ha]at ab;exact aP ab
theorem Post.freeze(P:Post r Z H ae as aq)(hD:r.heap.get? Q=kf):Post r Z H ae (λd=>as d\/d=Q) aq:=⟨P.gens,P.os,P.keep,λd M=>.inl<|P.b0 d M,λd M=>M.elim (P.bz d) λe=>.inr<|.inr<|e▸hD,P.bl,P.alive⟩
abbrev wy(n:a_)(scope:L_)(vars:List Nat)(aa:IC)(sc:List<|EJ×Fv)(m:aL)(r:EQ)(Z:EZ->Prop)(H:Hp)(Q af:EZ)(aj:Ff)(I:EZ)(A:List EZ)(i:EZ->Prop)(z:List V)(ab:Nat->F6->(EZ->Prop)->Hp->Prop):LP:=⟨n,compEnvC scope (ek aa scope.names []) af aa,bL sc scope.names,m.bh vars,Q,aj,I,A,i,z,ab,λs' Z' H'=>Post r Z H s' Z' H',λd=>True⟩
structure Blk(p:LP)(an:Heap->(Addr->Prop)->Prop)(s s1:Shared)(L:Addr)(Z1:Addr->Prop)(H1:Hp):Prop where
 c:LC p
 st:LS p an s1 Z1 H1
 j:p.G 0 s1.heap Z1 H1
 dL:s.heap.get? L=.none
 dD:s.heap.get? p.D=.none
 ne:p.D≠L
theorem rn{WG:V->aL->Hp->(aL->Hp->Prop)->Prop}{m:aL}{x:V}{H:Hp}{C:aL->Hp->Prop}(h:WG x m H C):WG x m H λl' H'=>True/\C l' H':=(funext λd=>funext λd=>(true_and _).symm:C=λl' H'=>True/\C l' H')▸h
theorem nM(K:CompOk sc scope vars)(I0:Inv n r.heap Z H)(F0:Fm n r.heap Z H aa sc m)(P2:Post r Z H s2 Z2 H2)(S:Inv n s2.heap Z2 H2)(T:It2 n aj I A i z ab)(a:ab 0 s2.heap Z2 H2)(hp:∀d∈A,r.heap.get? d=kf)(f:∀d,i d->¬FA aa d){D:Obj}(ho:D.isFreed=EF){an:F6->(EZ->Prop)->Prop}(kX:Keeps n s2.heap.objs.size an)(l:∀h,h.get? s2.heap.objs.size=j' D->an h Z2){h₁:F6}{t:Nat}(hn:h₁.Ns (s2.heap.push D).objs.size λc=>kf)(hs:∀p x,(s2.heap.push D).get? p=j' x->h₁.get? p=j' x):Blk (wy n scope vars aa sc m r Z H s2.heap.objs.size (s2.heap.push D).objs.size aj I A i z ab) an r {s2 with heap:=h₁,toks:=t} (s2.heap.push D).objs.size Z2 H2:=by
 refine aN (wx (r:=s2) S D) λP3 I3=>?_;have R:=(F0.post I0 P2).post S P3;have sz:(s2.heap.push D).objs.size=s2.heap.objs.size+1:=HG ..;have top:∀h:F6,h.get? h.objs.size=.none:=λh=>Gg<|EM _;have X:∀p x,s2.heap.get? p=j' x->h₁.get? p=j' x:=λp x e=>hs p x<|EV _ e;have L:Post s2 Z2 H2 {s2 with heap:=h₁,toks:=t} Z2 H2:=fP X;have b:∀d,s2.heap.objs.size<=d->r.heap.get? d=.none:=λd ha=>kg P2<|Gg ha;have u:∀d,FA (compEnvC scope (ek aa scope.names []) (s2.heap.push D).objs.size aa) d->d=(s2.heap.push D).objs.size\/(∃D,r.heap.get? d=j' D)/\FA aa d:=λd w=>(K.fa R w).imp_right λw=>⟨(F0.fa w).2.2,w⟩;have ne:s2.heap.objs.size≠(s2.heap.push D).objs.size:=EP<|sz▸Fq _;have E:∀d,i d->d<s2.heap.objs.size:=λd y=>by refine aZ (T.ok a d y) λc c s=>ax s λD ho=>?_;exact E_ ho
 have Q:=b (s2.heap.push D).objs.size<|sz▸GV _;have hD:H2 s2.heap.objs.size=.none:=by cases e:H2 s2.heap.objs.size with|none=>rfl|some x=>refine ax (S.alive (d:=s2.heap.objs.size)<|by rw[e];simp) λD ho=>?_;rw[top]at ho;exact aP ho
 refine⟨⟨T,λd y w=>?_,λw=>?_,λy=>GN _<|E _ y,λc F4 I4 p5 ao F5=>F4.base (K.fg F0.low) I4 p5 (λd c q w=>q w) ao F5,λp c j c he=>Post.en p j λd q=>?_⟩,⟨kX,P2.trans L,S.ext X,K.frame (r:={s2 with heap:=s2.heap.push D}) R I3 (top _) hn hs,l h₁<|hs _ _<|ES _ ho,λM=>by refine ax (S.d6 _ M) λD ho=>?_;rw[top]at ho;exact aP ho,hD⟩,T.keep a S (L.px (ex:=λc=>False)) (λc c x=>x) λc c x=>x,Q,b _<|EM _,ne⟩
 .refine(u d w).elim (λe=>?_) λw=>?_;.have:=E d y;rw[show d=_ from e,sz]at this;exact GN _<|Nat.lt_of_succ_lt this
  .exact f d y w.2
 .rcases u _ w with e|⟨⟨D,ho⟩,_⟩;.exact ne e
  .rw[b _<|EM _]at ho;exact aP ho
 .rcases he d q with e|e|e;.rw[show d=_ from e];exact Q
  .exact hp d e
  .rw[show d=_ from e];exact b _<|EM _
set_option tactic.hygienic true in
def jg(n:a_)(r:EQ)(Z:EZ->Prop)(H:Hp)(C:V->Hp->Prop)(R:EI->EZ->Nj->EQ->Prop):Prop:=∀ao af s' Z' H' x,Post r Z H s' Z' H'->Inv n s'.heap Z' H'->Rep n.w s'.heap Z' ao x->(∃y,s'.heap.Ns af y)->¬Z' af->H' af=kf->r.heap.get? af=kf->C x H'->R ao af (.ok .next) s'
set_option tactic.hygienic true in
theorem jg.list(fin:jg j.C r Z H C R)(af:LS j (LX j.C.w j.D Y ao k) ae as aq)(P:Post r Z H ae as aq)(K:r.heap.get? j.D=kf)(Q:r.heap.get? j.env.locals=kf)(ne:j.D≠j.env.locals)(q:C (.lst ao) aq):R (.ref j.D) j.env.locals (.ok .next) ae:=by refine aA af.f.ns λy hm p=>fin (.ref j.D) j.env.locals ae (λd=>as d\/d=j.D) aq (.lst ao) (P.freeze K) (af.i.freeze af.h ⟨_,af.x.1⟩) (.lst _ Y k _ (.inr rfl) af.x.1<|af.x.2.mono (λp M=>.inl M) λp p p e=>e) ⟨y,hm⟩ (λM=>M.elim af.f.lz λe=>ne e.symm) af.f.lh Q q
theorem wz(K:CompOk sc scope vars)(hI:cG n sc G aj iter d_)(hG:cR n LA (bL sc scope.names) G aj WG)(M:je n (bL sc scope.names) G f y)(hE:aK n (bL sc scope.names) G s b){R:EI->EZ->Nj->EQ->Prop}(O:bQ G N)(I0:Inv n r.heap Z H)(F0:Fm n r.heap Z H aa sc m)(h:d_ m H λz H=>z.length<=aR/\cV (eV WG y b<|m.bh vars) z [] H λys H=>C (.lst ys) H)(fin:jg n r Z H C R):Ey (EE n.prog n.w) N (Hb iter aa) (λx ae=>Ey (EE n.prog n.w) N (Ju x) (λit s2=>Ey (EE n.prog n.w) N (OD []) (λao s3=>Ey (EE n.prog n.w) N (newFunctionEnv scope aa.globals (ek aa scope.names []) [] aa.qual kf .none<|j' aa) (λo s4=>Hl (EE n.prog n.w) N (.compStart (.ListComp s [⟨aj,iter,f,0⟩] scope ar) 0 it ao {o with scope:=Nk scope aa}) (R ao o.locals) s4) aQ s3) aQ s2) aQ ae) aQ r:=by refine EK (hI O I0 F0 h) (λv ae J=>EK J (λit s2 L=>?_) λd d x=>x) λd d x=>x;obtain⟨Z2,H2,z,I,A,i,ab,rfl,P2,S,T,a,hp,ho,ac,hq⟩:=L.two F0;refine Fu<|KH K.dy (by intro u hy;exact(Ez hy).elim) (λh₁ ad j=>?_) K.kind;have p:=nM K I0 F0 P2 S T a hp ho (D:={cls:=.type "list",data:=.seq ([]:List EI).toArray}) rfl (an:=LX n.w s2.heap.objs.size [] [] 0) LX.keeps (λh e=>⟨e,.nil⟩) (t:=s2.toks+([]:List<|EJ×EI).length) ad λp x e=>(j.2 p<|EP<|E_ e).trans<|EV _ e;have l:=rj (R:=R (.ref s2.heap.objs.size) (s2.heap.push {cls:=.type "list",data:=.seq ([]:List EI).toArray}).objs.size) p.c (iter:=iter) (scope:=scope) (ar:=ar) hG M hE O (wl ..) rn p.st p.j (by simpa using ac) hq λs' Z' H' Y ys k af d q=>jg.list fin af af.b p.dD p.dL p.ne q;exact MZ l<|hH<|T.self p.j l
end
section
variable{r:EQ}{Z:EZ->Prop}{H:Hp}{h':F6}{aO:Nat}
theorem e0(r:EQ):r.heap.get? r.heap.objs.size=.none:=Gg<|EM _
theorem Inv.bu(I:Inv n r.heap Z H)(h:r.heap.get? d=kf):H d=.none:=by cases e:H d with|none=>rfl|some x=>refine ax (I.alive (d:=d)<|by rw[e];simp) λD ho=>?_;rw[h]at ho;exact aP ho
theorem Inv.dj(I:Inv n r.heap Z H)(h:r.heap.get? d=kf):¬Z d:=λM=>by refine ax (I.d6 d M) λD ho=>?_;rw[h]at ho;exact aP ho
theorem wA(I:Inv n r.heap Z H)(X:∀p D,r.heap.get? p=j' D->h'.get? p=j' D)(ht:r.heap.get? t=kf)(ho:h'.get? t=j' D):Post r Z H {r with heap:=h',toks:=aO} (λd=>Z d\/d=t) H/\Inv n h' (λd=>Z d\/d=t) H:=⟨⟨rfl,rfl,λd D e c=>X d D e,λc M=>.inl M,λd M=>M.imp id λe=>by clear ho M;replace e:=e.symm;subst e;exact .inr ht,λc M=>.inl M,λd D e=>⟨D,X d D e⟩⟩,I.ext2 (λc M=>.inl M) (λd M=>M.imp id λe=>by clear M;replace e:=e.symm;subst e;exact⟨ht,D,ho⟩) λp D c e=>X p D e⟩
theorem jh(c:Bool)(I:Inv n r.heap Z H)(X:∀p D,r.heap.get? p=j' D->h'.get? p=j' D)(ht:r.heap.get? t=kf)(ho:h'.get? t=j' (FF (if c then"tuple"else"list") Y.toArray l))(o:Reps n.w r.heap Z Y z)(q:C (if c then .tup z else .lst z) H):Res n (RV n) r Z H C (.ref t) {r with heap:=h',toks:=aO}:=by
 refine aN (wA (aO:=aO) I X ht ho) λP I'=>?_;have r':=o.mono (Z':=λd=>Z d\/d=t) (λG M=>.inl M) λd D G e=>X d D e;induction c;.exact⟨_,H,_,P,I',.lst t Y l z (.inr rfl) ho r',q⟩
 .exact⟨_,H,_,P,I',.tup t Y l z (.inr rfl) ho r',q⟩
theorem bR{h:F6}{D:Obj}:∀p x,h.get? p=j' x->(h.push D).get? p=j' x:=λd d e=>EV _ e
theorem hG{C:V->Hp->Prop}(c:Bool)(I:Inv n r.heap Z H)(o:Reps n.w r.heap Z Y z)(q:C (if c then .tup z else .lst z) H):Res n (RV n) r Z H C (.ref r.heap.objs.size) {r with heap:=r.heap.push<|FF (if c then"tuple"else"list") Y.toArray l,toks:=aO}:=jh c I bR (e0 r) (ES _ rfl) o q
theorem Hp.ao(H:Hp)(d:Nat)(D:c2):(H.set d D) d=j' D:=by simp[Hp.set]
theorem Hp.af(H:Hp)(D:c2)(h:p≠d):(H.set d D) p=H p:=by simp[Hp.set,h]
theorem nN(I:Inv n r.heap Z H)(X:∀p D,r.heap.get? p=j' D->h'.get? p=j' D)(ht:r.heap.get? t=kf)(ho:gH n h' Z (H.set t po) t po)(u:∃D,h'.get? t=j' D)(hp:∀c dx fs,po≠.inst c dx fs):Post r Z H {r with heap:=h',toks:=aO} Z (H.set t po)/\Inv n h' Z (H.set t po):=by
 refine⟨⟨rfl,rfl,λd D e G=>X d D e,λG M=>M,λG M=>.inl M,λd M=>?_,λd D e=>⟨D,X d D e⟩⟩,⟨λp D e=>X _ _<|I.base p D e,λd M=>by refine ax (I.d6 d M) λD q=>?_;exact⟨D,X _ _ q⟩,I.zb,λd h M=>?_,λd D e=>?_⟩⟩
 .by_cases e:d=t;.clear ho u M;subst e;exact .inr ht
  .rw[Hp.af _ _ e]at M;exact .inl M
 .by_cases e:d=t;.clear ho u h;subst e;exact I.dj ht M
  .rw[Hp.af _ _ e]at h;exact I.hz d h M
 .by_cases q:d=t;.clear ht u;subst q;rw[Hp.ao]at e;obtain rfl:=EA e;exact ho
  .rw[Hp.af _ _ q]at e;have:=(I.obj d D e).ext (λG M=>M) X;induction D with|list=>exact this|dict=>exact this|b9=>exact this|inst c dx fs=>
    refine hu this λJ L b h4 h5 h6=>⟨J,?_,b,h4,h5,λp c' a hb=>?_⟩;.rw[Hp.af _ _ λe=>?_];exact L;rw[e,I.bu ht]at L;exact aP L
    .by_cases q':p=t;.clear ht ho u q;subst q';rw[Hp.ao]at hb;exact aJ (EA hb)<|hp _ _ _
     .rw[Hp.af _ _ q']at hb;exact h6 p c' a hb
theorem kh(I:Inv n r.heap Z H)(A:∃D,H t=j' D/\D≠.b9/\∀c dx fs,D≠.inst c dx fs)(X:∀p D,p≠t->r.heap.get? p=j' D->h'.get? p=j' D)(ho:gH n h' Z (H.set t po) t po)(u:∃D,h'.get? t=j' D)(hp:∀c dx fs,po≠.inst c dx fs):Post r Z H {r with heap:=h',toks:=aO} Z (H.set t po)/\Inv n h' Z (H.set t po):=by
 refine a4 A λz h0 m f=>?_;have hn:H t≠.none:=by rw[h0];simp
 have j:∀d D,Z d->r.heap.get? d=j' D->h'.get? d=j' D:=λd D M e=>X d D (λq=>I.hz t hn<|q▸M) e;refine⟨⟨rfl,rfl,λd D e q=>X d D (λx=>by rw[x]at q;exact hn q) e,λG M=>M,λG M=>.inl M,λd M=>?_,λd D e=>?_⟩,⟨λp D e=>X _ _ (λq=>I.hz t hn<|q▸I.zb p D e)<|I.base p D e,λd M=>by refine ax (I.d6 d M) λD q=>?_;exact⟨D,j _ _ M q⟩,I.zb,λd h M=>?_,λd D e=>?_⟩⟩
 .by_cases e:d=t;.clear A X ho u h0 M;subst e;exact .inl hn
  .rw[Hp.af _ _ e]at M;exact .inl M
 .by_cases q:d=t;.clear A X ho h0 hn;subst q;exact u
  .exact⟨D,X d D q e⟩
 .by_cases e:d=t;.clear A X ho u h0 h;subst e;exact I.hz d hn M
  .rw[Hp.af _ _ e]at h;exact I.hz d h M
 .by_cases q:d=t;.clear A X u h0 hn;subst q;rw[Hp.ao]at e;obtain rfl:=EA e;exact ho
  .rw[Hp.af _ _ q]at e;have:=I.obj d D e;induction D with|list=>refine bn this λY l g o=>?_;exact dR Y l (X _ _ q g)<|o.mono (λG M=>M) j|dict=>refine cM this λY l g o k=>?_;exact dZ Y l (X _ _ q g) (o.mono (λG M=>M) j) k|b9=>refine ax (FZ.mp this) λD ho=>?_;show(h'.get? d).isSome=Do;exact X _ _ q ho▸rfl|inst c dx fs=>
    refine hu this λJ L s h4 h5 h6=>bn s λds l b C=>?_;have i:dx≠t:=λe=>by rw[e,h0]at L;exact m<|EA L
    refine⟨X _ _ q J,(Hp.af _ _ i).trans L,⟨ds,l,X _ _ i b,C.mono (λG M=>M) j⟩,h4,h5,λp c' a hb=>?_⟩;by_cases q':p=t;.clear A X ho u h0 hn q i;subst q';rw[Hp.ao]at hb;exact aJ (EA hb)<|hp _ _ _
    .rw[Hp.af _ _ q']at hb;exact h6 p c' a hb
theorem wB(I:Inv n r.heap Z H)(A:H t=j' (.inst c dx fs))(X:∀p D,p≠dx->r.heap.get? p=j' D->h'.get? p=j' D)(ho:h'.get? dx=j' (bb ds l))(O:c_ n.w r.heap Z ds a)(ha:∀w∈a,w.1∈eE):Post r Z H {r with heap:=h',toks:=aO} Z (H.set t<|.inst c dx a)/\Inv n h' Z (H.set t<|.inst c dx a):=by
 refine hu (I.obj t _ A) λi1 i2 i3 i4 z f=>?_;have hn:H t≠.none:=by rw[A];simp
 have av:H dx≠.none:=by rw[i2];simp
 have y:t≠dx:=λe=>by rw[<-e,A]at i2;cases i2
 have j:∀d D,Z d->r.heap.get? d=j' D->h'.get? d=j' D:=λd D M e=>X d D (λq=>I.hz dx av<|q▸M) e;refine⟨⟨rfl,rfl,λd D e q=>X d D (λx=>by rw[x]at q;exact av q) e,λG M=>M,λG M=>.inl M,λd M=>?_,λd D e=>?_⟩,⟨λp D e=>X _ _ (λq=>I.hz dx av<|q▸I.zb p D e)<|I.base p D e,λd M=>by refine ax (I.d6 d M) λD q=>?_;exact⟨D,j _ _ M q⟩,I.zb,λd h M=>?_,λd D e=>?_⟩⟩
 .by_cases e:d=t;.clear A i1 f y M;subst e;exact .inl hn
  .rw[Hp.af _ _ e]at M;exact .inl M
 .by_cases q:d=dx;.clear A X i1 i2 i3 f av y;subst q;exact⟨_,ho⟩
  .exact⟨D,X d D q e⟩
 .by_cases e:d=t;.clear A i1 f y h;subst e;exact I.hz d hn M
  .rw[Hp.af _ _ e]at h;exact I.hz d h M
 .by_cases q:d=t
  .clear A hn;subst q;rw[Hp.ao]at e;obtain rfl:=EA e;refine⟨X _ _ y i1,(Hp.af _ _<|HF y).trans i2,⟨ds,l,ho,O.mono (λG M=>M) j⟩,ha,z,λp c' m hb=>?_⟩;by_cases q':p=d;.exact q'
   .rw[Hp.af _ _ q']at hb;exact f p c' m hb
  .rw[Hp.af _ _ q]at e;have:=I.obj d D e;induction D with
   |list=>refine bn this λY l g o=>?_;exact dR Y l (X _ _ (λx=>by rw[x,i2]at e;cases e) g)<|o.mono (λG M=>M) j|dict=>refine cM this λY l g o k=>?_;exact dZ Y l (X _ _ (λx=>by rw[x,i2]at e;cases e) g) (o.mono (λG M=>M) j) k|b9=>
    refine ax (FZ.mp this) λD ab=>?_;show(h'.get? d).isSome=Do;by_cases x:d=dx;.exact x▸ho▸rfl
    .exact X _ _ x ab▸rfl|inst c2 aa m=>
    refine hu this λJ L s h4 h5 h6=>bn s λds l b C=>?_;have i:aa≠dx:=λe'=>q<|f d c2 m<|e'▸e;have E:d≠dx:=λx=>by rw[x,i2]at e;cases e
    have u:aa≠t:=λx=>by rw[x,A]at L;cases L
    refine⟨X _ _ E J,(Hp.af _ _ u).trans L,⟨ds,l,X _ _ i b,C.mono (λG M=>M) j⟩,h4,h5,λp c' aY hb=>?_⟩;by_cases q':p=t;.clear A i1 f hn y q u;subst q';rw[Hp.ao]at hb;have:=EA hb;injection this with _ e2 _;exact aJ e2.symm i
    .rw[Hp.af _ _ q']at hb;exact h6 p c' aY hb
end
section
variable{m:aL}
theorem bB{e:Ff}{W:aL->Hp->(V->Hp->Prop)->Prop}{K:V->Hp->Prop}{R:EI->EQ->Prop}(he:aK n sc G e W)(O:bQ G N)(I:Inv n r.heap Z H)(F:Fm n r.heap Z H aa sc m)(h:W m H K)(k:∀ae as aq d x,Post r Z H ae as aq->Inv n ae.heap as aq->Fm n ae.heap as aq aa sc m->Rep n.w ae.heap as d x->K x aq->R d ae):Ey (EE n.prog n.w) N (Hb e aa) R aQ r:=EK (he O I F h) (λd ae⟨as,aq,x,P,I1,o,q⟩=>k ae as aq d x P I1 (F.post I P) o q) λp p x=>x
theorem lL{K:V->V->Hp->Prop}{R:EI->EI->EQ->Prop}(J:aK n sc G e1 W1)(L:aK n sc G e2 W2)(O:bQ G N)(I:Inv n r.heap Z H)(F:Fm n r.heap Z H aa sc m)(h:W1 m H λx H=>W2 m H λu H=>K x u H)(k:∀s2 Z2 H2 d x p u,Post r Z H s2 Z2 H2->Inv n s2.heap Z2 H2->Fm n s2.heap Z2 H2 aa sc m->Rep n.w s2.heap Z2 d x->Rep n.w s2.heap Z2 p u->K x u H2->R d p s2):Ey (EE n.prog n.w) N (Hb e1 aa) (λd ae=>Ey (EE n.prog n.w) N (Hb e2 aa) (λp s2=>R d p s2) aQ ae) aQ r:=bB J O I F h λae as aq d x P1 I1 F1 r1 q=>bB L O I1 F1 q λs2 Z2 H2 p u P2 S F2 r2 q2=>k s2 Z2 H2 d x p u (P1.trans P2) S F2 (P2.rep I1 r1) r2 q2
end
section
variable{C:V->Hp->Prop}
end
section
theorem lM{k v x:V}{o:List<|V×V}:dget ((k,v)::o) x=if k=x then j' v else dget o x:=rfl
theorem ro{k v x u:V}{o:List<|V×V}:bC ((k,v)::o) x u=if k=x then(k,u)::o else(k,v)::bC o x u:=rfl
variable{A:F7}{h:F6}{Z:EZ->Prop}
set_option tactic.hygienic true in
theorem nO:dget f x=kf↔∀e∈f,e.1≠x:=by induction f with|nil=>exact iff_of_true rfl λe h=>(Ez h).elim|cons e o ih=>
  obtain⟨k,v⟩:=e;rw[lM];split;.rename_i q;simp[q]
  .rename_i q;rw[ih];simp[q]
theorem nP{f:List<|V×V}{x v:V}(hn:(f.map (·.1)).Nodup){a:Nat}(h:f[a]?=j' (x,v)):dget f x=j' v:=by induction f generalizing a with|nil=>simp at h|cons e o ih=>obtain⟨k,i⟩:=e;rw[Gq,FH]at hn;induction a with|zero=>simp only[IT,OH,LK]at h;refine aN h λs z2=>?_;clear h;subst s;clear ih;subst z2;exact aF rfl|succ a=>simp only[Hq]at h;have hm:x∈o.map (·.1):=EO.mpr ⟨(x,v),E0 h,rfl⟩;have:k≠x:=λe=>hn.1<|e▸hm;rw[lM];refine(aC this).trans<|ih hn.2 h
theorem RepE.snoc(t:RepE A h Z ds f)(e:hs=a8 A x)(o:Rep A h Z ab x)(q:Rep A h Z val u):RepE A h Z (ds++[⟨hs,ab,val⟩])<|f++[(x,u)]:=t.ind (P:=λds f=>RepE A h Z (ds++[⟨hs,ab,val⟩])<|f++[(x,u)]) (.cons e o q .nil) λd p c _ ih=>.cons d p c ih
set_option tactic.hygienic true in
theorem ji:∀{f}{x u},dget f x=kf->bC f x u=f++[(x,u)]:=by intro v1;induction v1 with|nil=>intro g g1 g2;exact rfl|cons hd o ih=>
  obtain⟨k,v⟩:=hd;intro x u h;rw[lM]at h;split at h;.exact aP h.symm
  .rename_i q;rw[ro];exact aC q▸ih h▸rfl
theorem wC:bC ((x,v)::f) x u=(x,u)::f:=aF rfl
theorem wE(h:j.1≠x):bC (j::f) x u=j::bC f x u:=aC h
theorem wF:cc ((x,v)::f) x=f:=aF rfl
theorem wG(h:j.1≠x):cc (j::f) x=j::cc f x:=aC h
theorem rp{f:List<|V×V}{k x v:V}{a:Nat}(hn:k∉f.map (·.1))(hj:f[a]?=j' (x,v)):k≠x:=λe=>hn<|e▸EO.mpr ⟨(x,v),E0 hj,rfl⟩
theorem RepE.put{val:EI}(q:RepE A h Z ds f)(hn:(f.map (·.1)).Nodup)(hj:f[a]?=j' (x,v))(o:Rep A h Z val u):RepE A h Z (ds.modify a λe=>{e with val:=val})<|bC f x u:=by revert hn a;refine q.ind (P:=λds f=>∀{a},(f.map (·.1)).Nodup->f[a]?=j' (x,v)->RepE A h Z (ds.modify a λe=>{e with val:=val}) (bC f x u)) (λ_ hj=>aP hj) λ{e j ds f}d p c t ih{a}hn hj=>?_;have hn:=FH.mp hn;induction a with|zero=>obtain rfl:=EA hj;exact wC.symm▸.cons d p o t|succ a=>exact wE (rp hn.1 hj)▸.cons d p c (ih hn.2 hj)
theorem RepE.del{a:Nat}(q:RepE A h Z ds f)(hn:(f.map (·.1)).Nodup)(hj:f[a]?=j' (x,v)):RepE A h Z (ds.eraseIdx a)<|cc f x:=by revert hn a;refine q.ind (P:=λds f=>∀{a},(f.map (·.1)).Nodup->f[a]?=j' (x,v)->RepE A h Z (ds.eraseIdx a) (cc f x)) (λ_ hj=>aP hj) λ{e j ds f}d p c t ih{a}hn hj=>?_;have hn:=FH.mp hn;induction a with|zero=>obtain rfl:=EA hj;exact wF▸t|succ a=>exact wG (rp hn.1 hj)▸.cons d p c (ih hn.2 hj)
theorem wH:∀{f}{x u},(bC f x u).map (·.1)=if(dget f x).isSome then f.map (·.1)else f.map (·.1)++[x]:=by intro v1;induction v1 with|nil=>intro g g1;exact rfl|cons hd o ih=>
  obtain⟨k,v⟩:=hd;intro x u;rw[ro,lM];by_cases q:k=x;.simp[q]
  .rw[aC q,aC q,Gq,ih];split<;>rfl
theorem nQ:∀{f}{x},(cc f x).Sublist f:=by intro v1;induction v1 with|nil=>intro g;exact .slnil|cons hd o ih=>
  obtain⟨k,v⟩:=hd;intro x;dsimp only[cc];split;.exact List.sublist_cons_self ..
  .exact ih.cons_cons _
set_option tactic.hygienic true in
theorem nR(X:cZ f)(hf:bD f x):cZ<|bC f x u:=by
 have D:=wH (f:=f) (x:=x) (u:=u);refine⟨?_,?_⟩
 .have ab:∀e∈bC f x u,e.1=x\/∃e'∈f,e'.1=e.1:=λe he=>by
   have:e.1∈(bC f x u).map (·.1):=Fx he;rw[D]at this;split at this;.refine aA (EO.mp this) λe' J L=>?_;exact .inr ⟨e',J,L⟩
   .refine(E1.mp this).elim (λq=>?_) λq=>?_;.refine aA (EO.mp q) λe' J L=>?_;exact .inr ⟨e',J,L⟩
    .exact .inl<|ta.mp q
  refine hf.elim (λar=>aN ar λJ L=>?_) λan=>aN an λJ L=>?_;.exact .inl λe he=>by rcases ab e he with q|⟨e',q,q'⟩;exact q▸J;exact q'▸L e' q
  .exact .inr λe he=>by rcases ab e he with q|⟨e',q,q'⟩;exact q▸J;exact q'▸L e' q
 .rw[D];split;.exact X.2
  .rename_i q;rw[Gd];refine⟨X.2,by simp,λd ha p hb=>?_⟩;rw[ta.mp hb];intro s;clear hf D hb;subst s;refine aA (EO.mp ha) λe he e2=>?_;have:dget f d=.none:=by simpa using q
   exact nO.mp this e he e2
theorem wI(X:cZ f):cZ<|cc f x:=by
 refine⟨?_,(nQ.map _).nodup X.2⟩;refine X.1.elim (λh=>?_) λh=>?_;.exact .inl λe he=>h e<|nQ.mem he
 .exact .inr λe he=>h e<|nQ.mem he
end
section
variable{al:Hc}{A:F7}{N:GI}{aD:EI->EQ->Prop}{r:EQ}{Z:EZ->Prop}{Q:EZ}{ds:List FX}{ep:Nat}{f:List<|V×V}{ab:EI}{x:V}
theorem wJ(h:bD f x):KeyIn 6 x:=by
 rcases h with⟨⟨i,rfl⟩,_⟩|⟨⟨_,h⟩,_⟩;.exact .int _ _
 .exact h
theorem lN(hf:bD f x)(hu:N.units+20<Gz)(rk:Rep A r.heap Z ab x)(h:∀t,C (a8 A x) {r with toks:=t}):Ey (EE al A) N (pyHash ab) C aD r:=qW 6 (wJ hf) (aE 0x1da85c6482a175120 rfl hu) rk<|h _
noncomputable def lO:EI->EZ|.ref d=>d|_=>0
noncomputable def ii(ds:List FX)(f:List<|V×V):List<|V×EZ×EI:=List.zipWith (λ(e:FX)(j:V×V)=>(j.1,lO e.key,e.val)) ds f
theorem rq(o:Rep A r.heap Z v x):Rep A r.heap (λ_=>True) v x:=o.mono (λ_ _=>trivial) λ_ _ _ e=>e
theorem rr(o:Rep A r.heap Z v x)(h:gF x):v=.ref (lO v):=ax h.1 λz e=>(e▸o).di λ_ _ _ _ _ _=>rfl
theorem wK(o:RepE A r.heap Z ds f)(hh:∀e∈f,gF e.1):ds=(ii ds f).map (entryOfKey<|aO al A)/\(∀o∈ii ds f,(aO al A).is r.heap o.1 o.2.1)/\(ii ds f).map (·.1)=f.map (·.1):=by revert hh;refine o.ind (P:=λds f=>(∀e∈f,gF e.1)->ds=(ii ds f).map (entryOfKey<|aO al A)/\(∀o∈ii ds f,(aO al A).is r.heap o.1 o.2.1)/\(ii ds f).map (·.1)=f.map (·.1)) (λ_=>⟨rfl,λ_ h=>(Ez h).elim,rfl⟩) λ{e j ds f}d p c _ ih ht=>?_;have I:=ih λe he=>ht e<|.tail _ he;have k:=ht _<|.head _;have q:=rr p k;clear c;obtain⟨eh,ek,ev⟩:=e;have d:eh=a8 A j.1:=d;have p:Rep A r.heap Z ek j.1:=p;have q:ek=.ref (lO ek):=q;refine⟨congr (aY Pk ?_) I.1,λo O=>(EG.mp O).elim (λe=>e▸⟨rq<|q▸p,k⟩)<|I.2.1 o,aY (Pk _) I.2.2⟩;show _=DictEntry.mk (a8 A j.1) (.ref<|lO ek) ev;rw[d,<-q]
theorem wL(o:RepE A r.heap Z ds f)(hh:∀e∈f,g4 e.1):(∀e∈ds,∃k,Hy k e.key=Do/\e.hash=hashInt k)/\∀i,ds.findIdx? (λe=>Hy i e.key)=f.findIdx? λe=>decide<|e.1=.int i:=by
 revert hh;refine o.ind (P:=λds f=>(∀e∈f,g4 e.1)->(∀e∈ds,∃k,Hy k e.key=Do/\e.hash=hashInt k)/\∀i,ds.findIdx? (λe=>Hy i e.key)=f.findIdx? λe=>decide<|e.1=.int i) (λ_=>⟨λ_ h=>(Ez h).elim,λ_=>rfl⟩) λ{e j ds f}d p c _ ih ht=>?_;have I:=ih λe he=>ht e<|.tail _ he;refine ax (ht _<|.head _) λk X=>?_;rw[X]at d p;refine ax p.inv λt ek=>⟨λe he=>(EG.mp he).elim (λq=>⟨k,q▸ek▸dI rfl,q▸d⟩)<|I.1 e,λi=>?_⟩;rw[Lo,Lo,I.2 i,ek,X];have:Hy i (Value.int k t)=decide (V.int k=.int i):=by rw[Ij];simp[Hy]
 rw[this]
set_option tactic.hygienic true in
theorem lP(hu:N.units+20<Gz)(hD:r.heap.get? Q=j' (bb ds ep))(O:RepE A r.heap Z ds f)(X:cZ f)(hf:bD f x)(rk:Rep A r.heap Z ab x)(n:dget f x=kf->C kf r)(I:∀a v,f[a]?=j' (x,v)->C (j' a) r):Ey (EE al A) N (dictFind Q ab<|a8 A x) C aD r:=by
 rcases hf with⟨⟨i,rfl⟩,p⟩|⟨ht,s⟩
 .refine rk.d3 λ_=>?_;rename_i t;refine aN (wL O p) λJ L=>wpAny_dictFind_of (knd:=Gu al A) (k:=i) (by simp[Gu,Hy]) hD rfl (λe he=>J e he.1) ?_;show C ((ds.toArray).findIdx? λe=>Hy i e.key) r;have e1:(ds.toArray).findIdx? (λe=>Hy i e.key)=ds.findIdx? λe=>Hy i e.key:=by simp
  rw[e1,L i];cases hi:f.findIdx? λe=>decide (e.1=.int i)with|none=>refine n<|nO.mpr λe he q=>?_;have:=L'.mp hi e he;simp[q]at this|some a=>refine aA (Kd.mp hi) λad hp _=>?_;refine I a f[a].2 ?_;rw[EL ad];have:f[a].1=.int i:=of_decide_eq_true hp;rw[<-this]
 .obtain⟨d,l⟩:∃d,ab=.ref d:=⟨_,rr rk ht⟩;subst l;refine aZ (wK (al:=al) O s) λJ L b=>wpAny_dictFind_heap (knd:=aO al A) (k:=x) (xs:=ii ds f) hu ⟨rq rk,ht⟩ hD rfl J L (b▸X.2) (λE=>?_) λa j hj=>?_;.refine n<|nO.mpr λe he q=>?_;refine ax (Gj.mp he) λa hj=>?_;have m:=aY (·[a]?) b;rw[ET,ET,hj]at m;refine aA (EY.mp m) λo e1 e2=>?_;have e2:o.1=e.1:=e2;exact E a o.2<|e1▸q▸e2▸rfl
  .have m:=aY (·[a]?) b;rw[ET,ET,hj]at m;refine aA (EY.mp m.symm) λo e1 e2=>?_;have e2:o.1=x:=e2;exact I a o.2<|e1▸e2▸rfl
theorem lQ{C:Option EI->EQ->Prop}(hu:N.units+20<Gz)(hD:r.heap.get? Q=j' (bb ds ep))(O:RepE A r.heap Z ds f)(X:cZ f)(hf:bD f x)(rk:Rep A r.heap Z ab x)(n:dget f x=kf->∀t,C kf {r with toks:=t})(I:∀v u,dget f x=j' u->Rep A r.heap Z v u->∀t,C (j' v) {r with toks:=t}):Ey (EE al A) N (dictGet Q ab) C aD r:=by
 dsimp only[dictGet];try with_reducible refine E4 ?_
 refine s0<|lN hf hu rk λt=>s0<|lP (r:={r with toks:=t}) hu hD O X hf rk ?_ ?_;.intro E;exact tk<|n E t
 .intro a v hj;refine s0<|G7 (s:={r with toks:=t}) hD rfl ?_;refine b5 (O.get hj) λe he _ _ rv=>?_;have:ds.toArray[a]?=j' e:=by simpa using he
  exact this▸tk (I _ _ (nP X.2 hj) rv t)
theorem ru(hu:N.units+20<Gz)(hD:r.heap.get? Q=j' (bb ds ep))(O:RepE A r.heap Z ds f)(X:cZ f)(hf:bD f x)(rk:Rep A r.heap Z ab x)(rv:Rep A r.heap Z v u)(ac:f.length<=aR)(h:∀t h' y ad,h'.get? Q=j' (bb y ad)->RepE A r.heap Z y (bC f x u)->(∀p,p≠Q->h'.get? p=r.heap.get? p)->C () {r with heap:=h',toks:=t}):Ey (EE al A) N (Oz Q ab v) C aD r:=by
 dsimp only[Oz];try with_reducible refine E4 ?_
 refine s0<|lN hf hu rk λt=>?_;dsimp only[dictSetHashed];try with_reducible refine E4 ?_
 have aw:ds.toArray.size<=sizeLine:=by simpa[O.length]using dU ac
 refine s0<|lP (r:={r with toks:=t}) hu hD O X hf rk ?_ ?_;.intro E;refine s0<|G9<|KJ (hz:=aw) (s:={r with toks:=t}) hD rfl<|h t _ (ds++[⟨a8 A x,ab,v⟩]) (ep+1) ?_ (ji E▸O.snoc rfl rk rv) λp hb=>(E5 r.heap Q _).2 p hb;.rw[FY _ hD rfl];show j' ({cls:=.type "dict",data:=.dict _<|ep+1}:Obj)=_;simp[bb]
 .intro a i hj;refine s0<|G9<|s0<|wpAny_updateDict (s:={r with toks:=t}) hD rfl<|wpAny_point<|h t _ (ds.modify a λe=>{e with val:=v}) ep ?_ (O.put X.2 hj rv) λp hb=>(E5 r.heap Q _).2 p hb;.rw[FY _ hD rfl];show j' ({cls:=.type "dict",data:=.dict _ ep}:Obj)=_;simp[bb]
theorem wM{C:EI->EQ->Prop}(hu:N.units+20<Gz)(hD:r.heap.get? Q=j' (bb ds ep))(O:RepE A r.heap Z ds f)(X:cZ f)(hf:bD f x)(rk:Rep A r.heap Z ab x)(rv:Rep A r.heap Z v u)(ac:f.length<=aR)(d:∀i M,dget f x=j' M->Rep A r.heap Z i M->∀t,C i {r with toks:=t})(bl:dget f x=kf->∀t h' y ad,h'.get? Q=j' (bb y ad)->RepE A r.heap Z y (f++[(x,u)])->(∀p,p≠Q->h'.get? p=r.heap.get? p)->C v {r with heap:=h',toks:=t}):Ey (EE al A) N (Nl Q ab v) C aD r:=by
 dsimp only[Nl];try with_reducible refine E4 ?_
 refine s0<|lN hf hu rk λt=>?_;have aw:ds.toArray.size<=sizeLine:=by simpa[O.length]using dU ac
 refine s0<|lP (r:={r with toks:=t}) hu hD O X hf rk ?_ ?_;.intro E;refine s0<|G9<|s0<|KJ (hz:=aw) (s:={r with toks:=t}) hD rfl<|tk<|bl E t _ (ds++[⟨a8 A x,ab,v⟩]) (ep+1) ?_ (O.snoc rfl rk rv) λp hb=>(E5 r.heap Q _).2 p hb;.rw[FY _ hD rfl];show j' ({cls:=.type "dict",data:=.dict _<|ep+1}:Obj)=_;simp[bb]
 .intro a i hj;refine s0<|G7 (s:={r with toks:=t}) hD rfl ?_;refine b5 (O.get hj) λe he _ _ b=>?_;have:ds.toArray[a]?=j' e:=by simpa using he
  exact this▸s0 (G9<|tk<|d _ _ (nP X.2 hj) b t)
theorem wN(hu:N.units+20<Gz)(hD:r.heap.get? Q=j' (bb ds ep))(O:RepE A r.heap Z ds f)(X:cZ f)(hf:bD f x)(rk:Rep A r.heap Z ab x)(ac:f.length<=aR){u:V}(hy:dget f x=j' u)(h:∀e,Rep A r.heap Z e.val u->∀t h' y ad,h'.get? Q=j' (bb y ad)->RepE A r.heap Z y (cc f x)->(∀p,p≠Q->h'.get? p=r.heap.get? p)->C (j' e) {r with heap:=h',toks:=t}):Ey (EE al A) N (NH Q ab) C aD r:=by
 dsimp only[NH];try with_reducible refine E4 ?_
 refine s0<|lN hf hu rk λt=>?_;have aw:ds.toArray.size<=sizeLine:=by simpa[O.length]using dU ac
 refine s0<|lP (r:={r with toks:=t}) hu hD O X hf rk ?_ ?_;.intro E;rw[hy]at E;exact aP E.symm
 .intro a i hj;refine s0<|G7 (s:={r with toks:=t}) hD rfl ?_;refine b5 (O.get hj) λe he _ _ b=>?_;have e1:ds.toArray[a]?=j' e:=by simpa using he
  rw[e1];have e2:i=u:=by rw[nP X.2 hj]at hy;exact EA hy
  refine s0<|KJ (hz:=aw) (s:={r with toks:=t}) hD rfl<|tk<|h e (e2▸b) t _ (ds.eraseIdx a) (ep+1) ?_ (O.del X.2 hj) λp hb=>(E5 r.heap Q _).2 p hb;.rw[FY _ hD rfl];show j' ({cls:=.type "dict",data:=.dict _<|ep+1}:Obj)=_;simp[bb]
end
noncomputable def nS:nu->Operator|.add=>.Add|.sub=>.Sub|.mul=>.Mult|.mod=>.Mod|.pow=>.Pow
noncomputable def fQ:j2->CmpOp|.eq=>.Eq|.ne=>.NotEq|.lt=>.Lt|.le=>.LtE|.gt=>.Gt|.ge=>.GtE|.isIn=>.In|.notIn=>.NotIn|.isA=>.Is|.isNot=>.IsNot
section
variable{n:a_}{N:GI}{r:EQ}{Z:EZ->Prop}{H:Hp}{d p:EI}{x u:V}
theorem fl(I:Inv n r.heap Z H)(o:Rep n.w r.heap Z d x)(h:bT H x=j' z):∃t Y l c,d=.ref t/\r.heap.get? t=j' (FF (if c then"tuple"else"list") Y.toArray l)/\Reps n.w r.heap Z Y z/\(c=Do↔∃ys,x=.tup ys):=by induction x using Mine.Internal.V.casesOn with
 |tup ys=>obtain rfl:=EA h;refine o.di λt Y l M g q=>ng t Y l Do rfl g q<|by simp|lst ys=>obtain rfl:=EA h;refine o.ez λt Y l M g q=>ng t Y l EF rfl g q<|by simp|ref t=>refine o.fb ?_;have h:(match H t with|some<|.list z=>j' z|_=>kf)=j' z:=h;cases A:H t with|none=>rw[A]at h;exact aP h|some D=>induction D with|list ys=>rw[A]at h;obtain rfl:=EA h;refine bn (I.obj _ _ A) λY l g q=>ng t Y l EF rfl g q<|by simp|_=>rw[A]at h;exact aP h
 |_=>exact aP h
theorem ik(I:Inv n r.heap Z H)(o:Rep n.w r.heap Z d x)(h:cU H x=j' f):∃Q ds l,d=.ref Q/\r.heap.get? Q=j' (bb ds l)/\RepE n.w r.heap Z ds f/\cZ f/\(Q==HB)=false:=by induction x using Mine.Internal.V.casesOn with
 |br ys=>obtain rfl:=IV<|EA h;refine o.fw λt Y l M g q k=>pK t Y l rfl g q k.1 k.2|ref t=>refine o.fb ?_;have h:(match H t with|some<|.dict z=>j' z|_=>kf)=j' f:=h;cases A:H t with|none=>rw[A]at h;exact aP h|some D=>induction D with|dict ys=>rw[A]at h;obtain rfl:=IV<|EA h;refine cM (I.obj _ _ A) λY l g q k=>pK t Y l rfl g q k.1 k.2|_=>rw[A]at h;exact aP h
 |_=>exact aP h
theorem Reps.fc(o:Reps A h Z Y z):Y=[]↔z=[]:=by
 have:=o.length;constructor;.intro e;rw[e]at this;exact Jg this.symm
 .intro e;rw[e]at this;exact Jg this
theorem rv(J:-dC<i)(L:i<dC):N_ i<=64:=by
 refine intBits_le_64 ?_ ?_;.exact Ie (dd:(-2^64:Int)< -dC) J
 .exact Ie L (dd:dC<2^64)
theorem gJ{C:V->Hp->Prop}{s':EQ}{i:Int}{t:Tok}{aO:Nat}(I:Inv n r.heap Z H)(q:C (.int i) H)(e:s'={r with toks:=aO}):Res n (RV n) r Z H C (.int i t) s':=by subst e;exact eT I (.int _ _) q
theorem nT{k:Int->Prop}{P:EI->Prop}{A:F7}{h:F6}(o:Rep A h Z d x)(g:av (bN x) k)(w:∀i t,k i->P (.int i t)):P d:=by induction x using Mine.Internal.V.casesOn with|int i=>cases o;exact w _ _ g|_=>exact HQ g
theorem wO{k:List Nat->Prop}{P:EI->Prop}{A:F7}{h:F6}(o:Rep A h Z d x)(g:av (h6 x) k)(w:∀r t,k r->P (.str ⟨r.toArray⟩ t)):P d:=by induction x using Mine.Internal.V.casesOn with|str r=>cases o;exact w _ _ g|_=>exact HQ g
theorem wP{k:List V->Prop}{P:EI->Prop}{A:F7}{h:F6}(o:Rep A h Z d x)(g:av (pX x) k)(w:∀t Y l z,Z t->h.get? t=j' (FF "tuple" Y.toArray l)->Reps A h Z Y z->k z->P (.ref t)):P d:=by induction x using Mine.Internal.V.casesOn with|tup r=>refine o.di λt Y l M g' q=>w t Y l r M g' q g|_=>exact HQ g
theorem hI(h:bP H x=j' z):bT H x=j' z/\∀K,x≠.tup K:=by induction x using Mine.Internal.V.casesOn with|lst _=>exact⟨h,λd e=>nomatch e⟩|ref _=>exact⟨h,λd e=>nomatch e⟩|_=>exact aP h
theorem rx(o:Reps A h Z Y z)(r2:Reps A h Z f ys)(ac:(z++ys).length<=aR):Y.length+f.length<=sizeLine:=by exact o.length▸r2.length▸EH▸dU ac
theorem wQ(I:Inv n r.heap Z H)(j:Rep n.w r.heap Z d x)(b:Rep n.w r.heap Z p u)(E:bP H x=j' z)(hy:bP H u=j' ys)(ac:(z++ys).length<=aR)(q:C (.lst<|z++ys) H):Ey (EE n.prog n.w) N (II .Add d p) (Res n (RV n) r Z H C) aQ r:=by
 refine aN (hI E) λE nx=>aN (hI hy) λhy i=>e9 (fl I j E) λt Y l c s g o hc=>?_;clear j;subst s;refine e9 (fl I b hy) λt2 f n2 c2 s g2 r2 a=>?_;clear b;subst s;have e1:c=false:=by induction c;rfl;refine ax (hc.mp rfl) λK e=>?_;exact aJ e<|nx K
 have e2:c2=false:=by induction c2;rfl;refine ax (a.mp rfl) λK e=>?_;exact aJ e<|i K
 clear hc;clear a;subst e1 e2;refine P.add_list g g2 ?_<|Fk▸Fk▸rx o r2 ac;rw[K8];exact hG (aO:=r.toks) (l:=0) (C:=C) EF I (o.append r2) q
theorem wR(I:Inv n r.heap Z H)(M:Z t)(g:r.heap.get? t=j' (FF "tuple" Y.toArray l))(o:Reps n.w r.heap Z Y z)(z2:Z t2)(g2:r.heap.get? t2=j' (FF "tuple" f.toArray n2))(r2:Reps n.w r.heap Z f ys)(ac:(z++ys).length<=aR)(q:C (.tup<|z++ys) H):Ey (EE n.prog n.w) N (II .Add (.ref t)<|.ref t2) (Res n (RV n) r Z H C) aQ r:=by
 by_cases e1:Y=[];.have e:=o.fc.mp e1;rw[e]at q;refine concat_meets ⟨_,g,rfl⟩ ⟨_,g2,rfl⟩ noFill_tuple_add seq_tuple_add M0 My (Mk _ _) (tuple_addW0 _ _ _ _ _ _ _ _ _ _<|e1▸rfl) ⟨g,g2,?_⟩;exact cQ I (.tup t2 f n2 _ z2 g2 r2) q
 .by_cases e2:f=[];.rw[r2.fc.mp e2,FR]at q;refine concat_meets ⟨_,g,rfl⟩ ⟨_,g2,rfl⟩ noFill_tuple_add seq_tuple_add M0 My (Mk _ _) (tuple_addW1 _ _ _ _ _ _ _ _ _ _ (by simpa using e1)<|e2▸rfl) ⟨g,g2,?_⟩;exact cQ I (.tup t Y l _ M g o) q
  .refine P.add_tuple g g2 (by simpa using e1) (by simpa using e2) ?_<|Fk▸Fk▸rx o r2 ac;rw[K8];exact hG (aO:=r.toks) (l:=0) (C:=C) Do I (o.append r2) q
theorem wS{C:V->Hp->Prop}(I:Inv n r.heap Z H)(j:Rep n.w r.heap Z d x)(b:Rep n.w r.heap Z p u)(h:pY H x u λv=>C v H):Ey (EE n.prog n.w) N (II .Add d p) (Res n (RV n) r Z H C) aQ r:=by have m:∀{x},Rep n.w r.heap Z d x->(av (bP H x) λr=>av (bP H u) λt=>(r++t).length<=aR/\C (.lst<|r++t) H)->Ey (EE n.prog n.w) N (II .Add d p) (Res n (RV n) r Z H C) aQ r:=λj h=>dK h λz E h=>dK h λys hy h=>wQ I j b E hy h.1 h.2;induction x using Mine.Internal.V.casesOn with|int i=>refine j.d3 λc=>nT (P:=λp=>Ey (EE n.prog n.w) N (II .Add (.int i _) p) _ _ _) b h λa aj h=>add_int<|gJ I h rfl|str aj=>refine j.dc λc=>wO (P:=λp=>Ey (EE n.prog n.w) N (II .Add (.str ⟨aj.toArray⟩ _) p) _ _ _) b h λv k h=>PyProof.Rows.add_str (λt' aO=>eT I ?_ h.2) (by show aj.toArray.size+v.toArray.size<=_;exact Fk▸Fk▸EH▸dU h.1);have e:(⟨aj.toArray⟩:EJ)++(⟨v.toArray⟩:EJ)=⟨(aj++v).toArray⟩:=aY PySem.Str.mk<|K8 ..;exact e▸.str _ _|tup aj=>refine j.di λt Y l M g o=>wP (P:=λp=>Ey (EE n.prog n.w) N (II .Add (.ref t) p) _ _ _) b h λt2 f n2 ys z2 g2 r2 h=>wR I M g o z2 g2 r2 h.1 h.2|_=>exact m j h
theorem wT{C:V->Hp->Prop}(I:Inv n r.heap Z H)(j:Rep n.w r.heap Z d x)(b:Rep n.w r.heap Z p u)(h:fd H A x u λv=>C v H):Ey (EE n.prog n.w) N (II (nS A) d p) (Res n (RV n) r Z H C) aQ r:=by have q:∀{A:Operator}{k:Int->Int->Prop},(av (bN x) λi=>av (bN u) λa=>k i a)->(∀i t a aj,k i a->Ey (EE n.prog n.w) N (II A (.int i t)<|.int a aj) (Res n (RV n) r Z H C) aQ r)->Ey (EE n.prog n.w) N (II A d p) (Res n (RV n) r Z H C) aQ r:=λ{A k}h w=>nT (P:=λd=>Ey _ _ (II A d p) _ _ _) j h λi t h=>nT (P:=λp=>Ey _ _ (II A _ p) _ _ _) b h λa aj h=>w i t a aj h;induction A with|add=>exact wS I j b h|sub=>exact q h λi t a aj h=>PyProof.Rows.sub_int<|gJ I h rfl|mul=>exact q h λi t a aj h=>PyProof.Rows.mul_int (gJ I h.2 rfl)<|.of_right<|rv h.1.2.2.1 h.1.2.2.2|mod=>refine q h λi t a aj h=>PyProof.Rows.mod_int (JI h.1)<|gJ I ?_ rfl;exact Int.fmod_eq_emod_of_nonneg _ (Fy h.1)▸h.2|pow=>
   refine q h λi t a aj h=>aZ h λs J L=>?_;clear h;subst s;refine PyProof.Rows.pow_int dd ?_<|gJ I ?_ rfl
   .have:((N_ i:Nat):Int)<=64:=by exact_mod_cast rv J.1 J.2
    exact EC (G_ this dd) dd
   .have:i^(2:Int).toNat=i*i:=by show i^2=_;rw[Int.pow_succ,Int.pow_succ,Int.pow_zero,J_]
    exact this▸L
end
theorem wU{d p:Nat}{o q:List Nat}:i' (d::o) (p::q)=(d==p&&i' o q):=rfl
theorem wV{x:V}{o:List V}:eS (x::o)=pd x::eS o:=rfl
theorem ry(r:List Nat):∀t,i' r t=Do↔t.take r.length=r:=by induction r with|nil=>exactλt=>iff_of_true rfl rfl|cons d o ih=>intro t;induction t with|nil=>exact⟨λh=>EX h,λh=>(Ml d o h.symm).elim⟩|cons p q _=>rw[wU,Ft,beq_iff_eq,ih q];exact⟨λh=>h.1▸aY (d::·) h.2,λh=>⟨(Jw h).1.symm,(Jw h).2⟩⟩
theorem wW(r:List Nat):∀t,d1 r t=Do↔∃i,i+r.length<=t.length/\(t.drop i).take r.length=r:=by intro v;induction v with|nil=>
  dsimp only[d1];rw[ry];constructor
  .intro h;have:r=[]:=by simpa using h.symm
   clear h;subst this;exact bm 0 (by trivial)<|by rfl
  .intro s;refine aA s λi J L=>?_;have:r=[]:=Jg (by dsimp only[Ik]at J;exact aE 0x76c0486804b820 rfl J);clear s J L;subst this;rfl|cons p q ih=>
  dsimp only[d1];rw[KL,ry,ih];constructor
  .intro s;obtain(h|⟨i,J,L⟩):=s;.refine bm 0 ?_ h;have:=aY Hk h;rw[Hh]at this;exact aE 0xed02e0013604020 rfl this
   .exact bm (i+1) (by dsimp only[Fi];exact aT 0x1da38291382e0a41413820 rfl J) L
  .intro s;refine aA s λi J L=>?_;induction i with|zero=>exact .inl L|succ i=>exact .inr ⟨i,by dsimp only[Fi]at J;exact aT 0x1da09c1051c1489c170520 rfl J,L⟩
theorem rz(r t:List Nat):(!(Builtin.Str.occurrences ⟨t.toArray⟩ ⟨r.toArray⟩ 0 (⟨t.toArray⟩:EJ).length 1).isEmpty)=d1 r t:=by
 rw[Ij,StrLaws.found_iff,wW];constructor;.intro s;refine aA s λi J L=>?_;rw[OV]at L;refine bm i J<|eq_of_beq L
 .intro s;refine aA s λi J L=>?_;refine bm i J ?_;rw[OV];simpa[PySem.Str.length]using L
section
variable{n:a_}{N:GI}{r:EQ}{Z:EZ->Prop}{H:Hp}{d p:EI}{x u:V}
abbrev RB:F6->(EZ->Prop)->EI->Bool->Prop:=λd d v p=>v=.bool p
theorem rA(o:Rep A h Z d x):(d==GZ)=Do↔x=.none:=by cases o<;>simp
theorem wX(E:bs x)(a:∀u∈z,bs u):((eS z).any λu=>ND u<|pd x)=Do↔x∈z:=by induction z with|nil=>exact⟨λh=>EX h,λh=>(Ez h).elim⟩|cons M z ih=>
  simp only[wV,Kh,KL,EG];rw[ih λu hy=>a u<|.tail _ hy,lE 9 (a M<|.head _) E];constructor;.rintro(h|h);exact .inl h.symm;exact .inr h
  .rintro(h|h);exact .inl h.symm;exact .inr h
theorem nU(neg:Bool)(O:N.units+64<Gz)(I:Inv n r.heap Z H)(j:Rep n.w r.heap Z d x)(b:Rep n.w r.heap Z p u)(hy:bT H u=j' z)(E:bs x)(a:∀u∈z,bs u)(h:∀c,(c=Do↔x∈z)->C (if neg then !c else c) H):Ey (EE n.prog n.w) N (Ll (if neg then .NotIn else .In) d p) (Res n RB r Z H C) aQ r:=by
 refine e9 (fl I b hy) λt Y l c s g o hc=>?_;clear b;subst s;refine ax (hD 9 E j) λas r1=>?_;have hl:=j_ 9 E;have hp:PureN 10<|if c then .tup z else .lst z:=by induction c;exact .lst _ _ a;exact .tup _ _ a
 have w:Rep n.w r.heap (λG=>True) (.ref t)<|if c then .tup z else .lst z:=by
  have r':=o.mono (Z':=λG=>True) (λG G=>trivial) λG G G e=>e;induction c;.exact .lst t Y l _ trivial g r'
  .exact .tup t Y l _ trivial g r'
 refine ax (hD 10 hp w) λf r2=>aN (j_ 10 hp) λl1 l2=>?_;have hu:N.units+1+min (O_<|eS z) (pd x).depth<cLine:=aT 0x1ded42e13829051291542e10140 rfl O<|ED (Nat.min_le_right _ _) hl.2;have fin:Res n RB r Z H C (.bool<|if neg then !(eS z).any λu=>ND u<|pd x else(eS z).any λu=>ND u<|pd x) r:=cQ I rfl<|h _<|wX E a;induction c<;>induction neg;.exact SeqAt.in_list_reads r2 r1 l1 hl.1 hu fin
 .exact SeqAt.notIn_list_reads r2 r1 l1 hl.1 hu fin
 .exact SeqAt.in_tuple_reads r2 r1 l1 hl.1 hu fin
 .exact SeqAt.notIn_tuple_reads r2 r1 l1 hl.1 hu fin
theorem rB(hu:N.units+40<Gz)(hd:(Q==HB)=EF)(hD:r.heap.get? Q=j' (bb ds ep))(O:RepE n.w r.heap Z ds f)(X:cZ f)(hf:bD f x)(rk:Rep n.w r.heap Z ab x)(h:∀t,C (dget f x).isSome {r with toks:=t}):Ey (EE n.prog n.w) N (contains (.ref Q) ab) C aD r:=by
 have hT:r.TypeIs (.ref Q) "dict":=gI hD;dsimp only[contains];try with_reducible refine E4 ?_
 refine bnd (λd k=>I2 hT Lp.lookup k) ?_;show Ey _ _ (if(j' (Value.builtin "dict.__contains__")==j' GZ)=Do then _ else _) _ aD r;refine cP (by rw[beq_builtin_none];exact E2) ?_;refine s0<|wpAny_callSpecialUnlessNone?_slot (name:=Et "__contains__") hT Lp<|Fs Lp hT entry_dict_contains ?_<|args_dict_contains _ _;show Ey _ _ (dictGet Q ab>>=_) _ _ r;refine s0<|lQ (by show N.units+1+20<Gz;exact aE 0x1da85d44b8290542e0a140 rfl hu) hD O X hf rk (λE t=>?_) λv M hy d t=>?_;.show Ey _ _ (Builtin.Dict.pendingKey? Q ab>>=_) _ _ _;refine bnd (λd k=>wpAny_pendingKey_other hd k)<|tk ⟨_,rfl,Gx ?_⟩;have:=h t;rw[E]at this;exact this
 .show Ey _ _ (ret<|.bool Do) _ _ _;refine tk ⟨_,rfl,Gx ?_⟩;have:=h t;rw[hy]at this;exact this
theorem ki(neg:Bool)(O:N.units+64<Gz)(I:Inv n r.heap Z H)(j:Rep n.w r.heap Z d x)(b:Rep n.w r.heap Z p u)(hy:cU H u=j' f)(hf:bD f x)(h:C (if neg then !(dget f x).isSome else(dget f x).isSome) H):Ey (EE n.prog n.w) N (Ll (if neg then .NotIn else .In) d p) (Res n RB r Z H C) aQ r:=by
 refine gB (ik I b hy) λQ ds l s g o k hd=>?_;clear b;subst s;induction neg;.show Ey _ _ (do return Value.bool<|<-contains (.ref Q) d) _ _ r;exact s0<|rB (aE 0x76a17050a0542e10140 rfl O) hd g o k hf j λt=>tk<|eT I rfl h
 .show Ey _ _ (do return Value.bool !(<-contains (.ref Q) d)) _ _ r;exact s0<|rB (aE 0x76a17050a0542e10140 rfl O) hd g o k hf j λt=>tk<|eT I rfl h
theorem rC(neg:Bool)(O:N.units+64<Gz)(I:Inv n r.heap Z H)(j:Rep n.w r.heap Z d x)(b:Rep n.w r.heap Z p u)(h:nw H x u λc=>C (if neg then !c else c) H):Ey (EE n.prog n.w) N (Ll (if neg then .NotIn else .In) d p) (Res n RB r Z H C) aQ r:=by induction u using Mine.Internal.V.casesOn with
 |str s'=>induction x using Mine.Internal.V.casesOn with
  |str t'=>refine j.dc λG=>b.dc λG=>?_;induction neg with|false=>exact PyProof.Rows.in_str<|cQ I rfl<|(rz t' s').symm▸h|true=>exact notIn_str<|cQ I rfl<|(rz t' s').symm▸h
  |_=>exact h.elim
 |tup z=>exact nU neg O I j b rfl h.1 h.2.1 h.2.2|lst z=>exact nU neg O I j b rfl h.1 h.2.1 h.2.2|br f=>exact ki neg O I j b rfl h.1 h.2|ref t=>refine dK h λD A h=>?_;induction D with|list z=>exact nU neg O I j b (j3 A) h.1 h.2.1 h.2.2|dict f=>exact ki neg O I j b (gE A) h.1 h.2|_=>exact h.elim
 |_=>exact h.elim
theorem lR(O:N.units+64<Gz)(I:Inv n r.heap Z H)(j:Rep n.w r.heap Z d x)(b:Rep n.w r.heap Z p u)(h:bK H A x u λc=>C c H):Ey (EE n.prog n.w) N (Ll (fQ A) d p) (Res n RB r Z H C) aQ r:=by induction A with|eq=>exact vu O j b h.1 h.2.1 λc hc=>cQ I rfl<|h.2.2 c hc|ne=>exact vv O j b h.1 h.2.1 λc hc=>cQ I rfl<|h.2.2 c hc|lt=>exact eF j h λi t h=>eF b h λa aj q=>PyProof.Rows.lt_int<|cQ I rfl q|le=>exact eF j h λi t h=>eF b h λa aj q=>PyProof.Rows.le_int<|cQ I rfl q|gt=>exact eF j h λi t h=>eF b h λa aj q=>PyProof.Rows.gt_int<|cQ I rfl q|ge=>exact eF j h λi t h=>eF b h λa aj q=>PyProof.Rows.ge_int<|cQ I rfl q|isIn=>exact rC EF O I j b h|notIn=>exact rC Do O I j b h|isA=>obtain⟨rfl,h⟩:=h;refine b.ff<|PySem.is_none<|cQ I rfl<|h _<|rA j|isNot=>obtain⟨rfl,h⟩:=h;refine b.ff<|PySem.isNot_none<|cQ I rfl<|h _ ?_;rw[Iw,<-OU,rA j]
end
section
variable{G:Nat}
abbrev WV:=aL->Hp->(V->Hp->Prop)->Prop
abbrev WB:=aL->Hp->(Bool->Hp->Prop)->Prop
abbrev WL:=aL->Hp->(List V->Hp->Prop)->Prop
theorem bQ.ia(o:bQ G N):N.units+64<cLine:=by have:=o.u;exact aE 0x76a17080a0542e19140 rfl this
theorem rD(o:Res n RB r Z H (λc H=>C (.bool c) H) v s'):Res n (RV n) r Z H C v s':=by obtain⟨Z',H',c,P,I,rfl,q⟩:=o;exact⟨Z',H',.bool c,P,I,.bool c,q⟩
theorem wY(ha:aK n sc G l a)(hb:aK n sc G D i):aK n sc G (.BinOp l (nS A) D ar) λm H C=>a m H λs H=>i m H λE H=>fd H A s E λv=>C v H:=by intro aa N r Z H m C O I F h;exact wpAny_BinOp<|lL ha hb O I F h λs2 Z2 H2 d x p u P S F2 j b k=>eG P<|wT S j b k
theorem wZ(he:aK n sc G e W):aK n sc G (.UnaryOp .USub e ar) λm H C=>W m H λs H=>av (bN s) λi=>C (.int<|-i) H:=by intro aa N r Z H m C O I F h;refine NZ<|bB he O I F h λae as aq d x P I1 F1 o k=>eG P ?_;refine eF o k λ_ _ k=>NI<|gJ I1 k rfl
theorem w0(he:aK n sc G e W):aK n sc G (.UnaryOp .Not e ar) λm H C=>W m H λs H=>av (eP s) λc=>C (.bool !c) H:=by intro aa N r Z H m C O I F h;refine NZ<|bB he O I F h λae as aq d x P I1 F1 o k=>eG P ?_;refine j9 o k λ_ k=>not_of<|Gx<|cQ I1 (.bool _) k
theorem w1(hm:Jx (fQ A) D=EF)(ha:aK n sc G l a)(hb:aK n sc G D i):aK n sc G (.Compare l [fQ A] [D] ar) λm H C=>a m H λs H=>i m H λE H=>bK H A s E λc=>C (.bool c) H:=by intro aa N r Z H m C O I F h;exact wpAny_Compare1 (lL ha hb O I F h λs2 Z2 H2 d x p u P S F2 j b k=>EK (eG P<|lR (C:=λc H=>C (.bool c) H) O.ia S j b k) (λ_ _ o=>rD o) λ_ _ x=>x) hm
theorem w2(hm:Jx (fQ A) D=EF)(ha:aK n sc G l a)(hb:aK n sc G D i):dE n sc G (.Compare l [fQ A] [D] ar) λm H C=>a m H λs H=>i m H λE H=>bK H A s E λc=>C c H:=by intro aa N r Z H m C O I F h;refine wpAny_isTrue_Compare1 (lL ha hb O I F h λs2 Z2 H2 d x p u P S F2 j b k=>EK (eG P<|lR O.ia S j b k) (λv s3 o=>?_) λ_ _ x=>x) hm;obtain⟨Z',H',c,P,I,rfl,q⟩:=o;exact Gx ⟨Z',H',c,P,I,rfl,q⟩
theorem w3(hm:Jx (fQ J) e=EF)(ha:aK n sc G l a)(hb:aK n sc G D i)(hc:aK n sc G e y):dE n sc G (.Compare l [fQ o1,fQ J] [D,e] ar) λm H C=>a m H λs H=>i m H λE H=>bK H o1 s E λo=>if o then y m H λf H=>bK H J E f λr'=>C r' H else C EF H:=by intro aa N r Z H m C O I F h;refine isTrue_chain ?_ hm;refine bB ha O I F h λae as aq d x P1 I1 F1 j h=>test_link<|bB hb O I1 F1 h λs2 Z2 H2 p u P2 S F2 b h=>?_;refine EK (lR (C:=λo H=>if o=Do then y m H λf H=>bK H J u f λr'=>C r' H else C EF H) O.ia S (P2.rep I1 j) b h) (λv s3 o=>?_) λ_ _ x=>x;obtain⟨Z3,H3,c,P3,I3,rfl,q⟩:=o;refine Gx ?_;have z:=(P1.trans P2).trans P3;induction c with|false=>exact⟨_,_,_,z,I3,rfl,q⟩|true=>refine test_last<|bB hc O I3 (F2.post S P3) q λs4 Z4 H4 c M L I4 F4 w h=>EK (eG (z.trans L)<|lR O.ia I4 ((P3.trans L).rep S b) w h) (λv s3 o=>?_) λ_ _ x=>x;obtain⟨Z',H',c,P,I,rfl,q⟩:=o;exact Gx ⟨Z',H',c,P,I,rfl,q⟩
noncomputable def nV:Ff->Bool|.UnaryOp .Not _ _=>EF|.BoolOp ..=>EF|.IfExp ..=>EF|.Compare ..=>EF|_=>Do
theorem w4(h:nV e=Do)(aa:IC)(a:J2 EI):Od e aa a=(do let v<-a;Ku e.pos;Kv [v]<|truthy v):=by induction e using JN with
 |UnaryOp A x ar=>induction A<;>first|rfl|exact aJ h E2
 |_=>first|rfl|exact aJ h E2
theorem w5(hp:nV e=Do)(he:aK n sc G e W):dE n sc G e λm H C=>W m H λv H=>av (eP v) λc=>C c H:=by intro aa N r Z H m C O I F h;refine wpAny_isTrue_value (bB he O I F h λae as aq d x P I1 F1 o k=>?_)<|w4 hp aa _;refine j9 o k λ_ k=>Gx ⟨_,_,_,P,I1,rfl,k⟩
theorem w6(he:dE n sc G e W):dE n sc G (.UnaryOp .Not e ar) λm H C=>W m H λc H=>C (!c) H:=by intro aa N r Z H m C O I F h;refine wpAny_isTrue_Not<|EK (he O I F h) (λc ae o=>?_) λ_ _ x=>x;obtain⟨as,aq,x,P,I1,rfl,q⟩:=o;exact⟨as,aq,_,P,I1,rfl,q⟩
theorem w7(ht:dE n sc G t b)(J:aK n sc G e1 W1)(L:aK n sc G e2 W2):aK n sc G (.IfExp t e1 e2 ar) λm H C=>b m H λc H=>if c then W1 m H C else W2 m H C:=by
 intro aa N r Z H m C O I F h;refine wpAny_IfExp<|EK (ht O I F h) (λc ae o=>?_) λ_ _ x=>x;obtain⟨as,aq,x,P,I1,rfl,q⟩:=o;induction c;.exact eG P<|L O I1 (F.post I P) q
 .exact eG P<|J O I1 (F.post I P) q
noncomputable def jj:Bool->BoolOp|true=>.And|false=>.Or
def g7(n:a_)(sc:List<|EJ×Fv)(G:Nat)(b:Bool)(f:List Ff)(W:WB):Prop:=∀{aa}{N}{r}{Z}{H}{m}{C}{ar},bQ G N->Inv n r.heap Z H->Fm n r.heap Z H aa sc m->W m H C->Ey (EE n.prog n.w) N (Hb (.BoolOp (jj b) f ar) aa) (Res n RB r Z H C) aQ r
theorem w8(he:aK n sc G e W):g7 n sc G b [e] λm H C=>W m H λv H=>av (eP v) λc=>C c H:=by intro aa N r Z H m C ar O I F h;refine BoolOp_one<|bB he O I F h λae as aq d x P I1 F1 o k=>?_;refine j9 o k λ_ k=>⟨_,_,_,P,I1,rfl,k⟩
set_option tactic.hygienic true in
theorem w9(he:aK n sc G e W)(h':g7 n sc G b (e'::f) W'):g7 n sc G b (e::e'::f) λm H C=>W m H λv H=>av (eP v) λc=>if c=b then W' m H C else C c H:=by
 intro aa N r Z H m C ar O I F h;induction b
 .refine BoolOp_or<|bB he O I F h λae as aq d x P I1 F1 o k=>?_;refine j9 o k λ_ k=>Gx ?_;rename_i c;induction c;.exact eG P<|h' O I1 F1 k
  .exact⟨_,_,_,P,I1,rfl,k⟩
 .refine BoolOp_and<|bB he O I F h λae as aq d x P I1 F1 o k=>?_;refine j9 o k λ_ k=>Gx ?_;rename_i c;induction c;.exact⟨_,_,_,P,I1,rfl,k⟩
  .exact eG P<|h' O I1 F1 k
theorem w_(h:g7 n sc G b f W):aK n sc G (.BoolOp (jj b) f ar) λm H C=>W m H λc H=>C (.bool c) H:=by intro aa N r Z H m C O I F hq;exact EK (h O I F hq) (λ_ _ o=>rD o) λ_ _ x=>x
def hJ(n:a_)(sc:List<|EJ×Fv)(G:Nat)(b:Bool)(f:List Ff)(W:WB):Prop:=∀{aa}{N}{r}{Z}{H}{m}{C},bQ G N->Inv n r.heap Z H->Fm n r.heap Z H aa sc m->W m H C->Ey (EE n.prog n.w) N (allTrue (jj b) f aa) (Res n RE r Z H C) aQ r
theorem w':hJ n sc G b [] λ_ H C=>C b H:=by
 intro aa N r Z H m C O I F h;induction b;.exact wpAny_allTrue_Or_nil<|cQ I rfl h
 .exact wpAny_allTrue_And_nil<|cQ I rfl h
theorem xa(he:dE n sc G e W)(h':hJ n sc G b f W'):hJ n sc G b (e::f) λm H C=>W m H λc H=>if c=b then W' m H C else C c H:=by
 intro aa N r Z H m C O I F h;induction b
 .refine wpAny_allTrue_Or_cons<|EK (he O I F h) (λc ae o=>?_) λ_ _ x=>x;obtain⟨as,aq,x,P,I1,rfl,q⟩:=o;induction c;.exact eG P<|h' O I1 (F.post I P) q
  .exact⟨_,_,_,P,I1,rfl,q⟩
 .refine wpAny_allTrue_And_cons<|EK (he O I F h) (λc ae o=>?_) λ_ _ x=>x;obtain⟨as,aq,x,P,I1,rfl,q⟩:=o;induction c;.exact⟨_,_,_,P,I1,rfl,q⟩
  .exact eG P<|h' O I1 (F.post I P) q
theorem xb(h:hJ n sc G b f W):dE n sc G (.BoolOp (jj b) f ar) W:=by intro aa N r Z H m C O I F hq;exact wpAny_isTrue_BoolOp<|h O I F hq
def fp(n:a_)(sc:List<|EJ×Fv)(G:Nat)(f:List Ff)(W:WL):Prop:=∀{aa}{N}{r}{Z}{H}{m}{C}{ar},bQ G N->Inv n r.heap Z H->Fm n r.heap Z H aa sc m->W m H C->Ey (EE n.prog n.w) N (Lc<|HH ar<|GQ f aa) (λY s'=>Y.length=f.length/\Res n (vB n) r Z H C Y s') aQ r
theorem fR(h:a5 e=Do):GQ (e::f) aa=(EF,Hb e aa)::GQ f aa:=by cases e<;>first|rfl|exact aJ h E2
theorem fS(ar:J3)(t:J2 EI)(o:List<|Bool×J2 EI):HH ar ((EF,t)::o)=(EF,t)::HH ar o:=rfl
theorem xc:fp n sc G [] λ_ H C=>C [] H:=by intro aa N r Z H m C ar O I F h;exact Ht ⟨rfl,cQ I .nil h⟩
theorem xd(hs:a5 e=Do)(he:aK n sc G e W)(h':fp n sc G f W'):fp n sc G (e::f) λm H C=>W m H λv H=>W' m H λY H=>C (v::Y) H:=by intro aa N r Z H m C ar O I F h;rw[fR hs,fS];refine HJ<|bB he O I F h λae as aq d x P I1 F1 o k=>?_;refine EK (h' O I1 F1 k) (λY s2 R=>?_) λ_ _ x=>x;obtain⟨aw,Z2,H2,z,P2,S,rs,q⟩:=R;exact⟨by simp[aw],Z2,H2,x::z,P.trans P2,S,.cons (P2.rep I1 o) rs,q⟩
theorem xe(hl:fp n sc G f W)(hw:f.length<=aR):aK n sc G (.Tuple f k ar) λm H C=>W m H λY H=>C (.tup Y) H:=by intro aa N r Z H m C O I F h;refine wpAny_Tuple<|EK (hl O I F h) (λY ae R=>?_) λ_ _ x=>x;obtain⟨aw,as,aq,z,P,I1,rs,q⟩:=R;exact⟨aw▸dU hw,Res.up P<|hG (aO:=ae.toks) (l:=0) Do I1 rs q⟩
theorem xf(hl:fp n sc G f W)(hw:f.length<=aR):aK n sc G (.List f ar) λm H C=>W m H λY H=>C (.lst Y) H:=by intro aa N r Z H m C O I F h;refine wpAny_List<|EK (hl O I F h) (λY ae R=>?_) λ_ _ x=>x;obtain⟨aw,as,aq,z,P,I1,rs,q⟩:=R;exact⟨aw▸dU hw,Res.up P<|hG (aO:=ae.toks) (l:=0) EF I1 rs q⟩
theorem xg(hl:fp n sc G f W)(hw:f.length<=aR):aK n sc G (.List f ar) λm H C=>W m H λY H=>∀d,H d=kf->C (.ref d) (H.set d<|.list Y):=by intro aa N r Z H m C O I F h;refine wpAny_List<|EK (hl O I F h) (λY ae R=>?_) λ_ _ x=>x;obtain⟨aw,as,aq,z,P,I1,rs,q⟩:=R;refine⟨aw▸dU hw,Res.up P ?_⟩;have hd:=e0 ae;have hg:=ES ae.heap (o:=FF "list" Y.toArray 0) rfl;refine aN (nN (po:=.list z) (aO:=ae.toks) I1 bR hd ⟨Y,0,hg,rs.mono (λ_ M=>M) λ_ _ _ e=>bR _ _ e⟩ ⟨_,hg⟩ λ_ _ _ e=>nomatch e) λj I'=>⟨as,_,_,j,I',.ref _,q _<|I1.bu hd⟩
theorem rE{r:EQ}{Z:EZ->Prop}{H:Hp}{d:EZ}(af:∃D,n.B.get? HB=j' D)(I:Inv n r.heap Z H)(h:r.heap.get? d=kf):(d==HB)=false:=by refine ax af λD ho=>?_;cases e:d==HB with|false=>rfl|true=>rw[beq_iff_eq.mp e,I.base _ _ ho]at h;exact aP h.symm
theorem xh{ar:J3}(af:∃D,n.B.get? HB=j' D):aK n sc G (.Dict [] [] ar) λ_ H C=>∀d,H d=kf->C (.ref d) (H.set d<|.dict []):=by intro aa N r Z H m C O I F h;have hd:=e0 r;have hg:=ES r.heap (o:=bb [] 0) rfl;refine aN (nN (po:=.dict []) (aO:=r.toks) I bR hd ⟨[],0,hg,.nil,⟨.inl λ_ h=>by simp at h,.nil⟩,rE af I hd⟩ ⟨_,hg⟩ λ_ _ _ e=>nomatch e) λj I'=>?_;show Ey _ _ (do Ku ar;Nm) _ _ _;exact s0<|Gc<|Fu ⟨Z,_,_,j,I',.ref _,h _<|I.bu hd⟩
end
structure Facts(C:a_):Prop where
 iq:∀f n,(f,n)∈j7->C.mg (PySem.Str.ofString n)=some (.ref<|C.fa f)gcl:∀c n,(c,n)∈j8->C.mg (PySem.Str.ofString n)=some (.ref<|C.cls c)fq:∀f,f<54->keepIn C.K (.ref<|C.fa f)=true
 keepC:∀c,c<6->keepIn C.K (.ref<|C.cls c)=true
 fn:∀f,f<54->typeIn C.K (.ref<|C.fa f)=some (.type "function")has:∀c,c<6->hasDictIn C.K (C.cls c)=true
 plain:∀c,c<6->plainGet C.K (C.cls c) ""=true
 over:∀c,c<6->plainOver C.K (C.cls c)=true
 setA:∀c,c<6->findIn C.K (.ref<|C.cls c) "__setattr__"=some (some<|.builtin "object.__setattr__")attr:∀c,c<6->∀n∈eE,∃r,findIn C.K (.ref<|C.cls c) (aI n)=some r/\noGet C.K r=true/\takerIn C.K (C.cls c) (aI n)=some Option.none
 ai:∀c m f,(c,m,f)∈jc->findIn C.K (.ref<|C.cls c) (aI m)=some (some<|.ref<|C.fa f)make:∀c,c<6->makesIn C.K (C.cls c)=true
 init:∀c f,(c,f)∈h7->findIn C.K (.ref<|C.cls c) "__init__"=some (some<|.ref<|C.fa f)
section
theorem nW{k l:Nat}{v u:V}{o:List<|Nat×V}:dM ((k,v)::o) l u=if k=l then(k,u)::o else(k,v)::dM o l u:=rfl
variable{Z:EZ->Prop}
theorem xi(d p:EJ)(t:Tok):(Value.str d t).isStr p=(d==p):=rfl
theorem xj{k l:Nat}{v:V}{o:List<|Nat×V}:c7 ((k,v)::o) l=if k=l then j' v else c7 o l:=rfl
theorem rF{e:FX}{k l:Nat}{t:Tok}(ht:e.key=.str (aI k) t)(X:k<bU.length)(hn:l<bU.length):e.key.isStr (aI l)=decide (k=l):=by rw[ht,xi,Ij,beq_iff_eq,decide_eq_true_eq];exact⟨λq=>nI X hn q,λq=>by rw[q]⟩
theorem rG{l:Nat}(hn:l<bU.length){ds:List FX}{fs:List<|Nat×V}(o:c_ A h Z ds fs):(∀w∈fs,w.1<bU.length)->match c7 fs l with|some x=>∃e,ds.find? (λe=>e.key.isStr<|aI l)=j' e/\Rep A h Z e.val x|kf=>ds.find? (λe=>e.key.isStr<|aI l)=kf:=by
 refine c_.ind (P:=λds fs=>(∀w∈fs,w.1<bU.length)->match c7 fs l with|some x=>∃e,ds.find? (λe=>e.key.isStr<|aI l)=j' e/\Rep A h Z e.val x|kf=>ds.find? (λe=>e.key.isStr<|aI l)=kf) (λ_=>rfl) (λe ds k x fs t ht o q ih hl=>?_) ds o;rw[xj,List.find?_cons,rF ht (hl _<|.head _) hn];by_cases q':k=l;.rw[aF q',dI q'];exact bm e rfl o
 .rw[aC q',ga q'];exact ih λw hf=>hl w<|.tail _ hf
theorem rH{ds:List FX}{fs:List<|Nat×V}(o:c_ A h Z ds fs):ds.any (·.refKey)=false:=c_.ind (P:=λds _=>ds.any (·.refKey)=EF) rfl λe ds k x fs t ht o q ih=>by rw[Kh,ih];show(e.key.isRef||false)=EF;rw[ht];rfl ds o
theorem c_.length{ds:List FX}{fs:List<|Nat×V}(o:c_ A h Z ds fs):ds.length=fs.length:=c_.ind (P:=λds fs=>ds.length=fs.length) rfl (λe ds k x fs t ht o q ih=>aY (·+1) ih) ds o
theorem xk(hv:Rep A h Z v u){l:Nat}(hn:l<bU.length)(a:Int)(t':Tok){ds:List FX}{fs:List<|Nat×V}(o:c_ A h Z ds fs):(∀w∈fs,w.1<bU.length)->c_ A h Z (putL (aI l) a (.str (aI l) t') v ds) (dM fs l u):=by
 refine c_.ind (P:=λds fs=>(∀w∈fs,w.1<bU.length)->c_ A h Z (putL (aI l) a (.str (aI l) t') v ds) (dM fs l u)) (λ_=>⟨⟨t',rfl⟩,hv,trivial⟩) (λe ds k x fs t ht o q ih hl=>?_) ds o;dsimp only[putL];rw[nW,rF ht (hl _<|.head _) hn];by_cases q':k=l;.rw[aF q',aF<|dI q'];exact⟨⟨t,ht⟩,hv,q⟩
 .rw[aC q',aC<|by rw[ga q'];exact E2];exact⟨⟨t,ht⟩,o,ih λw hf=>hl w<|.tail _ hf⟩
theorem kj:∀l∈eE,l<bU.length:=by decide
end
section
variable{r:EQ}{Z:EZ->Prop}{H:Hp}
theorem nX(I:Inv n r.heap Z H)(A:H d=j' (.inst c dx fs)):∃ds l,InstAt r.heap d (JY (n.cls c) dx) (n.cls c) (j'<|bb ds l)/\c_ n.w r.heap Z ds fs/\(∀w∈fs,w.1∈eE)/\c<6/\r.heap.get? dx=j' (bb ds l):=by refine hu (I.obj d _ A) λJ L s h5 h6 p=>bn s λds l b h4=>u9 ds l ⟨J,rfl,rfl,b⟩ h4 h5 h6 b
theorem xl(T:Facts n)(I:Inv n r.heap Z H)(A:H d=j' (.inst c dx fs))(hn:l∈eE)(E:c7 fs l=j' x)(q:C x H):Ey (EE n.prog n.w) N (getAttr (.ref d) (aI l) Do) (Res n (RV n) r Z H C) aQ r:=by
 refine i9 (nX I A) λds k f o hl hc p=>a4 (T.attr c hc l hn) λt J L p=>?_;have hf:=rG (kj l hn) o λw hf=>kj _<|hl w hf;rw[E]at hf;refine aA hf λe he re=>get_value (n.X.keeps I.base) f (plainGet_of<|T.plain c hc).1 (v:=e.val) (findObj_own (T.has c hc) J L ?_) ?_<|eT I re q;.show getL (aI l) ds=_;dsimp only[getL];rw[he]
 .generalize e.val=ev at re;clear E q hf;cases re<;>rfl
theorem xm{al:Hc}{A:F7}{K:KN}{R:Nj->EQ->Prop}{x Q dx:EZ}{f:EJ}{aO:Tok}{v:EI}{ds:List FX}{l:Nat}(an:K.In r.heap)(I:InstAt r.heap x (JY Q dx) Q<|j'<|bb ds l)(hp:plainOver K Q=Do)(ht:takerIn K Q f=j' kf)(hh:hasDictIn K Q=Do)(H:ds.any (·.refKey)=EF)(hz:(putL f (Ib A.params f) (.str f r.toks) v ds).length<=1000)(h:∀h',h'.get? dx=j' (bb (putL f (Ib A.params f) (.str f r.toks) v ds)<|putN f ds l)->(∀p D,p≠dx->r.heap.get? p=j' D->h'.get? p=j' D)->R (.ok<|.ret .none) {r with heap:=h',toks:=r.toks+1}):Hl (EE al A) N (.call (.builtin "object.__setattr__") ⟨[.ref x,.str f aO,v],[]⟩) R r:=by
 refine osa_open an I hp ht λp=>aA (any_some hh) λn m w=>?_;obtain⟨E,-,-,hd⟩:=I;replace hd:r.heap.get? dx=j' (bb ds l):=hd;refine s0<|tk<|s0<|s0<|wpAny_loadPart E<|s0<|(looks_clsIn an m).here ?_;rw[w];refine tk (a:=j' dx)<|s0<|tk<|s0 ?_;dsimp only[nsSet];refine s0<|s0<|Js<|tk<|s0<|wpAny_mkText<|s0<|wpAny_loadPart (s:={r with toks:=r.toks+1}) hd ?_;dsimp only;have c1:(!ds.toArray.any (·.key.isStr f)&&ds.toArray.any (·.refKey))=false:=by
  have:ds.toArray.any (·.refKey)=false:=by simpa using H
  rw[this,Bool.and_false]
 rw[aRefKeyMayBeTheName_at,c1];refine wpAny_updatePart (s:={r with toks:=r.toks+1}) hd ?_;have e1:OP f (Ib A.params f) (.str f r.toks) v (bb ds l)=bb (putL f (Ib A.params f) (.str f r.toks) v ds) (putN f ds l):=putName_dict ..;have i:(r.heap.update dx<|OP f (Ib A.params f) (.str f r.toks) v).get? dx=j' (OP f (Ib A.params f) (.str f r.toks) v<|bb ds l):=FY _ hd<|e1▸rfl;rw[e1]at i;refine s0<|wpAny_lookBehind (s:={r with heap:=r.heap.update dx _,toks:=r.toks+1}) i (pastItsLine_dict<|Fk▸Gp▸aB 0x3b470530000002ac14fa140 rfl hz) ?_;exact tk<|h _ i λp D hb e=>((E5 r.heap dx _).2 p hb).trans e
theorem xn(T:Facts n)(I:Inv n r.heap Z H)(A:H d=j' (.inst c dx fs))(hn:l∈eE)(O:Rep n.w r.heap Z v x)(ac:fs.length<=20):Ey (EE n.prog n.w) N (setAttr (.ref d) (aI l) v) (λp s'=>Post r Z H s' Z (H.set d<|.inst c dx<|dM fs l x)/\Inv n s'.heap Z (H.set d<|.inst c dx<|dM fs l x)) aQ r:=by
 refine i9 (nX I A) λds k f o hl hc hd=>a4 (T.attr c hc l hn) λt J L b=>?_;have an:=n.X.keeps I.base;have E:∀w∈fs,w.1<bU.length:=λw hf=>kj _<|hl w hf;have a:=xk O (kj l hn) (Ib n.w.params<|aI l) (r.toks+1) o E;have aw:(putL (aI l) (Ib n.w.params<|aI l) (.str (aI l)<|r.toks+1) v ds).length<=1000:=by
  rw[a.length];have:∀fs,(dM fs l x).length<=fs.length+1:=by intro fs;induction fs with|nil=>exact EM 1|cons j o ih=>obtain⟨k,u⟩:=j;rw[nW];split<;>simp<;>exact aE 0x1da38290828e0a420 rfl ih
  have:=this fs;exact aE 0x1ded3e85068e0a401a5120 rfl ac this
 refine set_plain an f (T.setA c hc)<|xm (r:={r with toks:=r.toks+1}) an f (T.over c hc) b (T.has c hc) (rH o) aw λh' i X=>?_;have e:∀w∈dM fs l x,w.1∈eE:=by
  have:∀fs,(∀w∈fs,w.1∈eE)->∀w∈dM fs l x,w.1∈eE:=by intro fs;induction fs with|nil=>intro _ w hf;exact ta.mp hf▸hn|cons j o ih=>
    intro h w hf;obtain⟨k,u⟩:=j;rw[nW]at hf;split at hf
    .rcases EG.mp hf with rfl|hf;.exact h (k,u)<|.head _
     .exact h w<|.tail _ hf
    .rcases EG.mp hf with rfl|hf;.exact h _<|.head _
     .exact ih (λg hg=>h g<|.tail _ hg) w hf
  exact this fs hl
 exact wB (aO:=r.toks+1+1) I A X i a e
end
theorem lU(aa:IC)(ar:J3):∀{f},f.all a5=Do->(HH ar<|GQ f aa).any (·.1)=EF/\(HH ar<|GQ f aa).all (λx=>!x.1)=true:=by intro v;induction v with|nil=>intro g;exact⟨rfl,rfl⟩|cons e f ih=>intro h;rw[Jv,Ft]at h;rw[fR h.1,fS];refine aN (ih h.2) λJ L=>Kh.symm▸Jv.symm▸J.symm▸L.symm▸⟨rfl,rfl⟩
noncomputable def eJ:Ff->Bool|.Call (.Name _ _) [] [] _=>EF|_=>Do
theorem rI(h:eJ D=Do)(attr:EJ)(aa:IC)(a:J2 EI):attributeBase D attr aa a=a:=by induction D using JN with
 |Call w as ks j=>induction w using JN with
  |Name=>induction as with
   |nil=>induction ks with|nil=>exact aJ h E2|cons=>rfl
   |cons=>rfl
  |_=>rfl
 |_=>rfl
section
variable{aa:IC}
theorem nY(hs:f.all a5=Do)(h:Ey (EE al A) N (Lc<|HH ar<|GQ f aa) (λY s'=>C ⟨Y,[]⟩ s') aD r):Ey (EE al A) N (evalArgs w Do (HH ar<|GQ f aa) []) C aD r:=by induction f with|nil=>unfold evalArgs;show Ey _ N (Lc []>>=_) C aD r;refine s0<|EK h (λY s' h'=>?_) λd d x=>x;refine cb<|E4<|cb<|tk h'|cons e f=>rw[Jv,Ft]at hs;rw[fR hs.1,fS]at h⊢;exact Calls.evalArgs_plain h
theorem gi(u:eJ D=Do)(hs:args.all a5=Do)(hn:args.length<20)(V:(a.endLine==ar.line)=Do)(h:Ey (EE al A) N (Hb D aa) (λov ae=>∀pl,Ey (EE al A) N (getMethod ov f pl) (λj s2=>Ey (EE al A) N (Mm ar j.1 j.2 (HH ar<|GQ args aa) []) C aD s2) aD ae) aD r):Ey (EE al A) N (Hb (.Call (.Attribute D f a) args [] ar) aa) C aD r:=by
 rw[arm_eval_Call,rI u];refine s0<|EK h (λov l h₁=>?_) λd d e=>e;refine s0<|Gc ?_;have b:methodCallForm (args.length+([]:List Keyword).length) (HH ar<|GQ args aa) (backToKw ar<|keywordEach [] aa)=true:=by show((HH ar<|GQ args aa).all (λx=>!x.1)&&Do&&decide (args.length+0+0<30))=Do;rw[(lU aa ar hs).2,NV,NV];exact dI<|GA hn dd
 have i:methodCallPos Do D aa a ar=pure ar:=by unfold methodCallPos;simp[V]
 unfold methodCall;rw[b];refine s0<|E4 ?_;unfold calleeOf;refine EK (h₁ _) (λj s2 L=>?_) λd d e=>e;obtain⟨w,first⟩:=j;exact s0<|HO i L
set_option backward.match.sparseCases true in
theorem nZ{K:KN}{w:EZ}{ar:J3}{first:List EI}{args:List Ff}{C:EI->EQ->Prop}(hs:args.all a5=Do)(X:keepIn K (.ref w)=Do)(h:Ey (EE al A) N (Lc<|HH ar<|GQ args aa) (λY ae=>K.In ae.heap/\Hl (EE al A) N (.call (.ref w) ⟨first++Y,[]⟩) (λo s'=>match o with|.ok<|.ret v=>C v s'|.ok _=>False|.error e=>aD e s') ae) aD r):Ey (EE al A) N (Mm ar (.ref w) first (HH ar<|GQ args aa) []) C aD r:=by refine callWith_of (P:=λh=>K.In h) ((lU aa ar hs).1.symm▸rfl) (λh an=>keeps_K X h an)<|nY hs<|EK h (λY ae J=>⟨J.1,wpAny_call J.2⟩) λd d x=>x
end
section
variable{ab:CW}
theorem kl(I:Inv n r.heap Z H)(F:Fm n r.heap Z H aa sc m)(X:sc.lookup x=j' .globalImplicit)(hd:(x==("__debug__":EJ))=EF)(E:x≠"__name__")(hm:n.mg x=kf)(hb:JO x=j' v)(h:R v r):Ey (EE n.prog n.w) N (Hb (.Name x ar) aa) R aQ r:=by
 have g:r.heap.Ns aa.globals n.mg:=by rw[F.globals];refine fJ n.g λD f ep ho o=>?_;exact i_ D f ep (I.base _ _ ho) o
 have p:r.heap.Ns aa.builtins n.mb:=by rw[F.builtins];refine fJ n.b λD f ep ho o=>?_;exact i_ D f ep (I.base _ _ ho) o
 exact LM F.kind (F.kd.trans X) (Calls.loadGlobal_builtin g hm p ((n.builtins x E).trans hb) h) hd
theorem n1(I:Inv n r.heap Z H)(F:Fm n r.heap Z H aa sc m)(X:sc.lookup x=j' .globalImplicit)(hd:(x==("__debug__":EJ))=EF)(hm:n.mg x=j' v)(h:R v r):Ey (EE n.prog n.w) N (Hb (.Name x ar) aa) R aQ r:=by
 have g:r.heap.Ns aa.globals n.mg:=by rw[F.globals];refine fJ n.g λD f ep ho o=>?_;exact i_ D f ep (I.base _ _ ho) o
 exact LM F.kind (F.kd.trans X) (Calls.loadGlobal_global g hm h) hd
theorem xo(X:sc.lookup (aI i)=j' .globalImplicit)(hm:∃t,n.mg (aI i)=j' (.int l t)):aK n sc G (.Name (aI i) ar) λd H C=>C (.int l) H:=by intro aa N r Z H m C O I F h;refine ax hm λt hm=>n1 I F X (qZ i) hm<|cQ I (.int _ _) h
theorem xp(T:Facts n)(hn:l∈eE)(hs:eJ e=Do)(he:aK n sc G e W):aK n sc G (.Attribute e (aI l) ar) λm H C=>W m H λov H=>av (cF ov) λd=>av (H d) λob=>match ob with|.inst _ _ fs=>av (c7 fs l) λv=>C v H|_=>False:=by
 intro aa N r Z H m C O I F h;refine Attribute_any_ (bB he O I F h λae as aq d x P I1 F1 o k=>eG P ?_) (by
  show(do
   let D<-attributeBase e (aI l) aa (Hb e aa)Ku ar.atName let o<-Kv [D] (getAttr D (aI l) Do)letTemporaryGo e D o
   pure o:J2 EI)=_;rw[rI hs]);refine g5 o k λQ k=>nF k λc dx fs A k=>?_;cases E:c7 fs l with|none=>rw[E]at k;exact k.elim|some u=>rw[E]at k;exact xl T I1 A hn E k
theorem xq(T:Facts n)(hn:l∈eE)(he:aK n sc G e W):cR n ex sc G (.Attribute e (aI l) ar) λv m H C=>W m H λov H=>ny ov l v H λH=>C m H:=by
 intro aa N r Z H m va x C O I F a h;show Ey _ _ (do
  let ov<-Kv [va] (Hb e aa)Ku ar.atName
  Kv [va,ov] (setAttr ov (aI l) va)release [va,ov] []) _ _ _;refine s0<|E4<|bB he O I F h λae as aq d u P I1 F1 o k=>s0<|Gc<|s0<|E4 ?_;unfold ny at k;refine g5 o k λQ k=>nF k λc dx fs A k=>EK (xn T I1 A hn (P.rep I a) k.1) (λp s2 L=>wpAny_release' ?_) λp p x=>x;exact⟨as,_,m,(P.trans L.1).px,L.2,F1.post I1 L.1,k.2⟩
def km(n:a_)(G:Nat)(ab:CW):Prop:=∀w Y H C,ab w Y H C->q6 n G w Y H C
theorem xr(T:Facts n)(aZ:km n G ab)(hf:(w,l)∈j7)(e:w<54)(X:sc.lookup (Et l)=j' .globalImplicit)(hd:(Et l==("__debug__":EJ))=EF)(hs:args.all a5=Do)(hl:fp n sc G args W):aK n sc G (.Call (.Name (Et l) a) args [] ar) λm H C=>W m H λY H=>ab w Y H C:=by intro aa N r Z H m C O I F h;refine Kw rfl<|n1 I F X hd (T.iq w l hf)<|nZ hs (T.fq w e) ?_;refine EK (hl O I F h) (λY ae R=>?_) λd d x=>x;obtain⟨_,as,aq,z,P,I1,rs,q⟩:=R;refine⟨n.X.keeps I1.base,IJ (aZ w z aq C q O.call I1 rs) λo s' ad=>?_⟩;refine aA ad λv s R=>?_;clear ad;replace s:=s.symm;subst s;exact R.up P
theorem xu(T:Facts n)(aZ:km n G ab)(hm:y<bU.length)(u:eJ D=Do)(hs:args.all a5=Do)(hn:args.length<20)(V:(a.endLine==ar.line)=Do)(ho:aK n sc G D Wo)(hl:fp n sc G args W):aK n sc G (.Call (.Attribute D (aI y) a) args [] ar) λm H C=>Wo m H λov H=>av (cF ov) λd=>av (H d) λob=>match ob with|.inst c _ fs=>c7 fs y=kf/\av (tab.ai c y) λw=>W m H λY H=>ab w (.ref d::Y) H C|_=>False:=by intro aa N r Z H m C O I F h;refine gi u hs hn V<|bB ho O I F h λae as aq d x P I1 F1 o k pl=>?_;refine g5 o k λQ k=>nF k λc dx fs A k=>?_;cases hf:tab.ai c y with|none=>rw[hf]at k;exact k.2.elim|some w=>
  rw[hf]at k;refine aN k λM k=>?_;have al:(c,y,w)∈jc:=by have e:(jc.find? λx=>x.1==c&&x.2.1==y).map (·.2.2)=j' w:=hf;refine aA (EY.mp e) λs J L=>?_;rcases s with⟨c',m',f'⟩;have b:=List.find?_some J;simp only[Ft,beq_iff_eq]at b;refine aN b λs z2=>?_;clear b;clear A;replace s:=s.symm;subst s;replace z2:=z2.symm;subst z2;simp only at L;replace L:=L.symm;subst L;exact Ma J
  have i:w<54:=by
   have:∀x∈jc,x.2.2<54:=by decide
   exact this _ al
  refine i9 (nX I1 A) λds l f K j hc p=>?_;have hg:=plainGet_of<|T.plain c hc;have E:=rG hm K λw hf=>kj _<|j w hf;rw[M]at E;refine method_fn (n.X.keeps I1.base) f hg.1 hg.2 (T.ai c y w al) (T.fn w i) ?_ ?_
  .show(lookIn (aI y)<|bb ds l).map _=_;have:lookIn (aI y) (bb ds l)=j' Option.none:=by show getL (aI y) ds=_;unfold getL;rw[E,rH K];rfl
   exact this▸rfl
  .refine nZ hs (T.fq w i)<|EK (hl O I1 F1 k) (λY s2 R=>?_) λp p x=>x;obtain⟨_,Z2,H2,z,P2,S,rs,q⟩:=R;refine⟨n.X.keeps S.base,IJ (aZ w _ H2 C q O.call S<|.cons (.ref Q) rs) λo s' ad=>?_⟩;refine aA ad λv s R=>?_;clear ad;replace s:=s.symm;subst s;exact R.up<|P.trans P2
end
theorem xv(d:EZ)(Y:List EI):(Mn "type.__call__" ⟨.ref d::Y,[]⟩).weight<=2:=by
 have:(Mn "type.__call__" ⟨.ref d::Y,[]⟩).weight=1:=by rfl
 exact aB 0x1da0920b0520 rfl this
theorem xw(d:EZ)(Y:List EI):(Mn "type.__call__" ⟨.ref d::Y,[]⟩).cUnits<=60:=by
 have:(Mn "type.__call__" ⟨.ref d::Y,[]⟩).cUnits=1:=by rfl
 exact aB 0x3b40f140b0520 rfl this
section
variable{aO:Nat}
theorem xx(I:Inv n r.heap Z H)(hc:c<6):Post r Z H {r with heap:=(r.heap.push Lq).push<|JY (n.cls c) r.heap.objs.size,toks:=aO} Z ((H.set r.heap.objs.size .b9).set (r.heap.objs.size+1)<|.inst c r.heap.objs.size [])/\Inv n ((r.heap.push Lq).push<|JY (n.cls c) r.heap.objs.size) Z ((H.set r.heap.objs.size .b9).set (r.heap.objs.size+1)<|.inst c r.heap.objs.size []):=by
 have X:∀p D,r.heap.get? p=j' D->((r.heap.push Lq).push<|JY (n.cls c) r.heap.objs.size).get? p=j' D:=λp D e=>bR _ _<|bR _ _ e;have j:=e0 r;have d1:r.heap.get? (r.heap.objs.size+1)=.none:=Gg<|GV _;have g0:((r.heap.push Lq).push<|JY (n.cls c) r.heap.objs.size).get? r.heap.objs.size=j' (bb [] 0):=bR _ _<|ES _ rfl;have g1:((r.heap.push Lq).push<|JY (n.cls c) r.heap.objs.size).get? (r.heap.objs.size+1)=j' (JY (n.cls c) r.heap.objs.size):=by have:=ES (r.heap.push Lq) (o:=JY (n.cls c) r.heap.objs.size) rfl;rwa[HG]at this
 have K:r.heap.objs.size≠r.heap.objs.size+1:=EP<|Fq _;generalize E:r.heap.objs.size+1=x at*;generalize i:r.heap.objs.size=dx at*;have f:∀d,d≠dx->d≠x->((H.set dx .b9).set x<|.inst c dx []) d=H d:=λd J L=>(Hp.af _ _ L).trans<|Hp.af _ _ J;have l:((H.set dx .b9).set x<|.inst c dx []) dx=j' .b9:=by rw[Hp.af _ _ K,Hp.ao]
 refine⟨⟨rfl,rfl,λd D e G=>X d D e,λG M=>M,λG M=>.inl M,λd M=>?_,λd D e=>⟨D,X d D e⟩⟩,⟨λp D e=>X _ _<|I.base p D e,λd M=>by refine ax (I.d6 d M) λD q=>?_;exact⟨D,X _ _ q⟩,I.zb,λd h M=>?_,λd D e=>?_⟩⟩
 .by_cases e1:d=dx;.clear i X g0 E g1 K f l M;replace e1:=e1.symm;subst e1;exact .inr j
  .by_cases e2:d=x;.clear E g1 K f l M;replace e2:=e2.symm;clear e1;subst e2;exact .inr d1
   .rw[f d e1 e2]at M;exact .inl M
 .by_cases e1:d=dx;.clear i X g0 E g1 K f l h;replace e1:=e1.symm;subst e1;exact I.dj j M
  .by_cases e2:d=x;.clear E g1 K f l h;replace e2:=e2.symm;clear e1;subst e2;exact I.dj d1 M
   .rw[f d e1 e2]at h;exact I.hz d h M
 .by_cases e2:d=x
  .clear d1;subst e2;rw[Hp.ao]at e;obtain rfl:=EA e;refine⟨g1,l,⟨[],0,g0,trivial⟩,λw hf=>by simp at hf,hc,λp c' a hb=>?_⟩;by_cases q:p=d;.exact q
   .exfalso;by_cases q2:p=dx;.clear i X j g0 E g1 K f e;replace q2:=q2.symm;subst q2;rw[l]at hb;cases hb
    .rw[f p q2 q]at hb;have:=(I.obj p _ hb).2.1;rw[I.bu j]at this;exact aP this
  .by_cases e1:d=dx;.clear i X j E g1 K f;replace e1:=e1.symm;clear e2;subst e1;rw[l]at e;obtain rfl:=IV<|EA e;show Option.isSome _=Do;exact g0▸rfl
   .rw[f d e1 e2]at e;have:=(I.obj d D e).ext (λG M=>M) X;induction D with|list=>exact this|dict=>exact this|b9=>exact this|inst c2 aa m=>
     refine hu this λJ L b h4 h5 h6=>?_;have N:aa≠dx:=λq=>by rw[q,I.bu j]at L;exact aP L
     have s:aa≠x:=λq=>by rw[q,I.bu d1]at L;exact aP L
     refine⟨J,(f aa N s).trans L,b,h4,h5,λp c' a hb=>?_⟩;by_cases q:p=x;.clear d1 E g1 K f l e2 s;replace q:=q.symm;subst q;rw[Hp.ao]at hb;have:=EA hb;injection this with _ e3 _;exact aJ e3.symm N
     .by_cases q2:p=dx;.clear i X j g0 E g1 K f e1 this J b N;replace q2:=q2.symm;clear q;subst q2;rw[l]at hb;cases hb
      .rw[f p q2 q]at hb;exact h6 p c' a hb
end
theorem xy(h:h7.lookup c=j' w):(c,w)∈h7:=pW h
section
variable{ab:CW}
theorem xz(T:Facts n)(aZ:km n G ab)(hc:(c,l)∈j8)(am:c<6)(X:sc.lookup (Et l)=j' .globalImplicit)(hd:(Et l==("__debug__":EJ))=EF)(hs:args.all a5=Do)(hl:fp n sc G args W):aK n sc G (.Call (.Name (Et l) a) args [] ar) λm H C=>W m H λY H=>av (tab.init c) λw=>∀d dx,H d=kf->H dx=kf->d≠dx->ab w (.ref d::Y) ((H.set dx .b9).set d<|.inst c dx []) λv H=>v=.none/\C (.ref d) H:=by intro aa N r Z H m C O I F h;refine Kw rfl<|n1 I F X hd (T.gcl c l hc)<|nZ hs (T.keepC c am) ?_;refine EK (hl O I F h) (λY ae R=>?_) λp p x=>x;obtain⟨_,as,aq,z,P,I1,rs,q⟩:=R;have an:=n.X.keeps I1.base;refine⟨an,?_⟩;cases hf:tab.init c with|none=>rw[hf]at q;exact q.elim|some w=>
  rw[hf]at q;have al:(c,w)∈h7:=by exact xy hf
  have i:w<54:=by
   have:∀x∈h7,x.2<54:=by decide
   exact this _ al
  refine aN (xx (aO:=ae.toks) I1 am) λP2 S=>?_;have hq:=q (ae.heap.objs.size+1) ae.heap.objs.size (I1.bu<|Gg<|GV _) (I1.bu<|e0 ae)<|EW<|Fq _;obtain⟨hh,g,dr,t,os⟩:=ae;refine make_core (makes_of (M:=EE n.prog n.w) an<|T.make c am) (looks_findIn an<|T.init c w al) (λself=>bind_fn an self<|T.fn w i) (.inl rfl) ?_;refine IJ (aZ w _ _ _ hq (O.make (xv _ _)<|xw _ _) S<|.cons (.ref _)<|P2.du I1 rs) λo s' ad=>?_;obtain⟨v,rfl,Z3,H3,u,L,I4,b,rfl,q'⟩:=ad;refine b.ff<|⟨rfl,Z3,H3,_,(P.trans P2).trans L,I4,.ref _,q'⟩
end
theorem xA(w:Ff)(D i:EI):∃b,subscripted w EF D i=operate b (Nn D i):=by induction w using JN with|Slice m aj st j=>induction st<;>exact⟨_,rfl⟩|_=>exact⟨_,rfl⟩
section
variable{r:EQ}
theorem gK{a w:Ff}{D i:EI}{T id:String}{C:EI->EQ->Prop}(hT:r.TypeIs D T)(hl:typeLookup (.type T) "__getitem__"=pure (j'<|.builtin id))(h:Ey (EE al A) N (Nn D i) C aD r):Ey (EE al A) N (IX a w D i) C aD r:=by
 refine s0<|bnd (λd k=>I2 hT hl k) ?_;have fin:Ey (EE al A) N (subscripted w EF D i) (λo e=>Ey (EE al A) N (letTemporaryGo a D o>>=λd=>pure o) C aD e) aD r:=by refine ax (xA w D i) λb hs=>hs▸wpAny_operating (EK h (λo e q=>bnd (λd k=>wpAny_letTemporaryGo k)<|tk q) λd d x=>x)
 first|exact tk<|s0 fin|exact cb<|s0 fin|exact s0 fin
theorem rJ(c:String)(z:Array EI)(l:Nat)(w:Array EI->Array EI):∃j,Ha w (FF c z l)=FF c (w z) j:=⟨_,rfl⟩
theorem xB{k:Int}{t:Tok}{v:EI}{C:Unit->EQ->Prop}(g:r.heap.get? m=j' (FF "list" items l))(h0:0<=k)(aa:k<2^63)(hn:k<items.size)(o:C () {r with heap:=r.heap.update m<|Ha (·.setIfInBounds k.toNat v)}):Ey (EE al A) N (OE (.ref m) (.int k t) v) C aD r:=by
 have hl:r.heap.IsList m items:=⟨_,g,rfl,l,rfl⟩;unfold OE;try with_reducible refine E4 ?_
 refine bnd (λd k=>J6 hl.typeIs dd k)<|s0<|F' (name:=Et "__setitem__") hl.typeIs slot_list_setitem<|Fs slot_list_setitem hl.typeIs entry_list_setitem ?_<|args_list_setitem _ _ _;show Ey _ _ (Builtin.List.listSubscript? (.int k t)>>=_) _ _ r;refine bnd (λd k=>wpAny_listSubscript_int (fitsIndex_of h0 aa) k) ?_;clear aa;refine ax (Mz h0) λa s=>?_;clear h0;subst s;have hj:a<items.size:=aE 0x1da841890640 rfl hn;have n:items[a]?=j' items[a]:=E6 hj;refine s0<|bnd (λd k=>wpAny_seqItemAt g rfl k)<|tk ?_;rw[n];refine bnd (λd k=>wpAny_setSeqItemAt g rfl k) ?_;first|exact cb<|tk ⟨.none,rfl,tk o⟩|exact tk ⟨.none,rfl,tk o⟩
theorem rK(h0:0<=i)(J:i.toNat<l):seqIndex? i l=j' i.toNat:=by unfold seqIndex?;simp only[show¬i<0 from FC.mpr h0,if_false];simp;exact⟨h0,(Mo h0).mp J⟩
end
section
variable{n:a_}{N:GI}{r:EQ}{Z:EZ->Prop}{H:Hp}{d p:EI}{x u:V}
set_option tactic.hygienic true in
theorem fT(I:Inv n r.heap Z H)(j:Rep n.w r.heap Z d x)(b:Rep n.w r.heap Z p u)(E:bT H x=j' z){l:Int}(hn:u=.int l)(hv:d2 z l=j' v)(q:C v H):Ey (EE n.prog n.w) N (IX a w d p) (Res n (RV n) r Z H C) aQ r:=by
 refine e9 (fl I j E) λt Y k c s g o hc=>?_;clear j;subst s;subst hn;refine b.d3 λG=>?_;unfold d2 at hv;split at hv
 .rename_i i;refine aA (o.get hv) λva J L=>?_;have fin:=cQ (C:=C) I L q;have ad:l.toNat<Y.toArray.size:=by refine ax (EN.mp J) λh G=>?_;exact h
  induction c;.exact gK (T:="list") ⟨_,g,rfl⟩ K9<|wpAny_getItem_list ⟨_,g,rfl,k,rfl⟩ i.1 (Fc i.2<|by decide) (by simpa using J) fin
  .exact gK (T:="tuple") ⟨_,g,rfl⟩ I_.lookup<|P.getItem_tuple g (EC (by decide) i.1) (Fc i.2<|by decide) (rK i.1 ad) (by simpa using J) fin
 .exact aP hv
theorem xC(hu:N.units+40<Gz)(I:Inv n r.heap Z H)(hD:r.heap.get? Q=j' (bb ds ep))(O:RepE n.w r.heap Z ds f)(X:cZ f)(hf:bD f x)(rk:Rep n.w r.heap Z ab x)(hv:dget f x=j' v)(q:C v H):Ey (EE n.prog n.w) N (Nn (.ref Q) ab) (Res n (RV n) r Z H C) aQ r:=by
 have hT:r.TypeIs (.ref Q) "dict":=gI hD;unfold Nn;try with_reducible refine E4 ?_
 refine bnd (λd k=>J6 hT dd k)<|s0<|F' (name:=Et "__getitem__") hT L0<|Fs L0 hT entry_dict_getitem ?_<|args_dict_getitem _ _;show Ey _ _ (dictGet Q ab>>=_) _ _ r;refine s0<|lQ (by show N.units+1+20<Gz;exact aE 0x1da85d44b8290542e0a140 rfl hu) hD O X hf rk (λE t=>by rw[hv]at E;exact aP E.symm) λi M hy rv t=>?_;rw[hv]at hy;obtain rfl:=EA hy;exact tk ⟨i,rfl,tk<|eT I rv q⟩
theorem xD{C:V->Hp->Prop}(O:N.units+64<Gz)(I:Inv n r.heap Z H)(j:Rep n.w r.heap Z d x)(b:Rep n.w r.heap Z p u)(h:fL H x u λv=>C v H):Ey (EE n.prog n.w) N (IX a w d p) (Res n (RV n) r Z H C) aQ r:=by
 have m:∀{z},bT H x=j' z->(av (bN u) λl=>av (d2 z l) λv=>C v H)->Ey (EE n.prog n.w) N (IX a w d p) (Res n (RV n) r Z H C) aQ r:=λ{z}E h=>by induction u using Mine.Internal.V.casesOn with|int l=>exact dK (D:=d2 z l) h λv hv q=>fT I j b E rfl hv q|_=>exact h.elim
 have s:∀{f},cU H x=j' f->(bD f u/\av (dget f u) λv=>C v H)->Ey (EE n.prog n.w) N (IX a w d p) (Res n (RV n) r Z H C) aQ r:=λ{f}E h=>by refine gB (ik I j E) λQ ds l e g o k hd=>dK h.2 λv hv q=>e▸gK (T:="dict") (gI g) L0.lookup (xC (aE 0x76a17050a0542e10140 rfl O) I g o k h.1 b hv q)
 induction x using Mine.Internal.V.casesOn with
 |str st=>refine j.dc λt=>eF b h λl aj h=>dK h λc hc q=>aN (nv hc) λi hc=>?_;have e:(⟨st.toArray⟩:EJ).length=st.length:=Fk;refine gK (T:="str") (typeIs_str _ _ _) PySem.F.slot_str_getitem.lookup<|PyProof.Rows.getItem_str (c:=c) (by simp;exact⟨EC (dd:(-9223372036854775808:Int)<=0) i.1,Ie i.2 dd⟩) ?_<|eT I (.str [c] _) q;rw[e,rK i.1 (EN.mp hc).1];exact He.trans hc|tup z=>exact m rfl h|lst z=>exact m rfl h|br f=>exact s rfl h|ref t=>refine dK h λD A h=>?_;induction D with|list z=>exact m (j3 A) h|dict f=>exact s (gE A) h|_=>exact h.elim
 |_=>exact h.elim
theorem xE(hu:N.units+40<Gz)(hD:r.heap.get? Q=j' (bb ds ep))(O:RepE n.w r.heap Z ds f)(X:cZ f)(hf:bD f x)(rk:Rep n.w r.heap Z ab x)(rv:Rep n.w r.heap Z val v)(ac:f.length<=aR)(h:∀t h' y ad,h'.get? Q=j' (bb y ad)->RepE n.w r.heap Z y (bC f x v)->(∀p,p≠Q->h'.get? p=r.heap.get? p)->C () {r with heap:=h',toks:=t}):Ey (EE n.prog n.w) N (OE (.ref Q) ab val) C aD r:=by
 have hT:r.TypeIs (.ref Q) "dict":=gI hD;unfold OE;try with_reducible refine E4 ?_
 refine bnd (λd k=>J6 hT dd k)<|s0<|F' (name:=Et "__setitem__") hT slot_dict_setitem<|Fs slot_dict_setitem hT entry_dict_setitem ?_<|args_dict_setitem _ _ _;refine bnd (λd k=>Il hT k) ?_;show Ey _ _ (Oz Q ab val>>=_) _ _ r;exact s0<|ru (by show N.units+1+20<Gz;exact aE 0x1da85d44b8290542e0a140 rfl hu) hD O X hf rk rv ac λt h' y ad g o D=>tk ⟨.none,rfl,tk<|h t h' y ad g o D⟩
theorem RepE.bw(I:Inv n r.heap Z H)(A:H Q≠kf)(o:RepE n.w r.heap Z ds f)(D:∀p,p≠Q->h'.get? p=r.heap.get? p):RepE n.w h' Z ds f:=o.mono (λc M=>M) λd ob M e=>(D d λq=>I.hz Q A<|q▸M).trans e
theorem Reps.bw(I:Inv n r.heap Z H)(A:H Q≠kf)(o:Reps n.w r.heap Z ds f)(D:∀p,p≠Q->h'.get? p=r.heap.get? p):Reps n.w h' Z ds f:=o.mono (λc M=>M) λd ob M e=>(D d λq=>I.hz Q A<|q▸M).trans e
theorem Reps.set(q:Rep A h Z va a){z:List V}(o:Reps A h Z Y z):∀i,Reps A h Z (Y.set i va)<|z.set i a:=o.ind (P:=λY z=>∀i,Reps A h Z (Y.set i va)<|z.set i a) (λp=>.nil) λr1 r2 ih i=>by induction i with|zero=>exact .cons q r2|succ i=>exact .cons r1<|ih i
theorem xF{D i va:EI}{ov Q a:V}{C:Hp->Prop}(O:N.units+64<Gz)(I:Inv n r.heap Z H)(m:Rep n.w r.heap Z D ov)(b:Rep n.w r.heap Z i Q)(rv:Rep n.w r.heap Z va a)(h:h4 ov Q a H C):Ey (EE n.prog n.w) N (OE D i va) (λd s'=>∃H',Post r Z H s' Z H'/\Inv n s'.heap Z H'/\C H') aQ r:=by unfold h4 at h;refine g5 m h λt h=>?_;cases A:H t with|none=>rw[A]at h;exact h.elim|some ob=>
  rw[A,c6]at h;have K:H t≠.none:=by rw[A];simp
  induction ob with|list z=>
   dsimp only at h;refine eF b h λl d h=>bM h λh0 J L q=>bn (I.obj t _ A) λY k g o=>?_;have hl:=o.length;refine xB g h0 (Fc ‹_›<|by decide) (by simp;exact(Mo h0).mp<|hl.symm▸J) ?_;refine ax (rJ "list" Y.toArray k (·.setIfInBounds l.toNat va)) λj e=>?_;have g':(r.heap.update t<|Ha (·.setIfInBounds l.toNat va)).get? t=j' (FF "list" (Y.set l.toNat va).toArray j):=by rw[FY _ g rfl,e];simp
   have o':∀p,p≠t->(r.heap.update t<|Ha (·.setIfInBounds l.toNat va)).get? p=r.heap.get? p:=(E5 r.heap t _).2;refine aN (kh (po:=.list<|z.set l.toNat a) (aO:=r.toks) I ⟨_,A,by simp,by simp⟩ (λp ob hb e=>(o' p hb).trans e) ⟨_,j,g',Reps.bw I K (o.set rv _) o'⟩ ⟨_,g'⟩<|by simp) λP I'=>gb _ P I' q|dict f=>refine aZ h λhf ac q=>hw (I.obj t _ A) λds k g o X af=>xE (aE 0x76a17050a0542e10140 rfl O) g o X hf b rv ac λaO h' y ad g' r' o'=>aN (kh (po:=.dict<|bC f Q a) (aO:=aO) I ⟨_,A,by simp,by simp⟩ (λp ob hb e=>(o' p hb).trans e) ⟨y,ad,g',RepE.bw I K r' o',nR X hf,af⟩ ⟨_,g'⟩<|by simp) λP I'=>gb _ P I' q|_=>exact h.elim
end
section
variable{n:a_}{sc:List<|EJ×Fv}{G:Nat}{ab:CW}
theorem xG(he:aK n sc G e W)(hi:aK n sc G i W'):aK n sc G (.Subscript e i ar) λm H C=>W m H λov H=>W' m H λQ H=>fL H ov Q λv=>C v H:=by intro aa N r Z H m C O I F h;exact NJ<|lL he hi O I F h λs2 Z2 H2 d x p u P S F2 j b k=>eG P<|xD O.ia S j b k
theorem xH(he:aK n sc G e W)(hi:aK n sc G i W'):cR n ex sc G (.Subscript e i ar) λx m H C=>W m H λov H=>W' m H λQ H=>h4 ov Q x H λH=>C m H:=by intro aa N r Z H m va x C O I F a h;rw[assign_Subscript];refine s0<|E4<|bB he O I F h λae as aq d u P1 I1 F1 r1 k=>?_;refine s0<|E4<|bB hi O I1 F1 k λs2 Z2 H2 p M P2 S F2 r2 k=>?_;refine s0<|Gc<|s0<|E4 ?_;have P:=P1.trans P2;refine EK (xF O.ia S (P2.rep I1 r1) r2 (P.rep I a) k) (λ_ s3 b=>wpAny_release' ?_) λ_ _ x=>x;refine a4 b λH3 P3 I3 q=>⟨Z2,H3,m,(P.trans P3).px,I3,F2.post S P3,q⟩
theorem rL(h:C (.int i r.toks) {r with toks:=r.toks+1}):Ey (EE n.prog n.w) N (Hb (.Constant (.int i) l ar) aa) C aD r:=wpAny_Constant_int h
theorem lV{r:EQ}{Z:EZ->Prop}{H:Hp}{v1 v2 v3:EI}{aO:Nat}(I:Inv n r.heap Z H):Post r Z H {r with heap:=r.heap.push {cls:=.type "slice",data:=.fields #[v1,v2,v3]},toks:=aO} Z H/\Inv n (r.heap.push {cls:=.type "slice",data:=.fields #[v1,v2,v3]}) Z H:=⟨fP (aO:=aO) bR,I.ext bR⟩
theorem rM{r b:EQ}{Z:EZ->Prop}{H:Hp}{C:V->Hp->Prop}{u:EJ}{st:List Nat}(I:Inv n b.heap Z H)(e:u=⟨st.toArray⟩)(q:C (.str st) H):∀h' t' k,(∀p D,b.heap.get? p=j' D->h'.get? p=j' D)->Res n (RV n) b Z H C (.str u t') {b with heap:=h',toks:=k}:=λh' t' k X=>by subst e;exact⟨Z,H,_,fP X,I.ext X,.str _ _,q⟩
theorem xI{l:Nat}{k:Nat}{p1 p2 ar:J3}{W:WV}(he:aK n sc G e W):aK n sc G (.Subscript e (.Slice (j'<|.Constant (.int l) k p1) kf kf p2) ar) λm H C=>W m H λov H=>match ov with|.str r=>l<=r.length/\r.length<=aR/\C (.str<|r.drop l) H|.tup z=>1<=l/\l<=z.length/\z.length<=aR/\C (.tup<|z.drop l) H|_=>False:=by intro aa N r Z H m C O I F h;refine NJ<|bB he O I F h λae as aq d x P I1 F1 o kk=>EK (Q:=λi s2=>Ey (EE n.prog n.w) N (IX e _ d i) (Res n (RV n) ae as aq C) aQ s2) ?_ (λi s2 L=>EK L (λ_ _ R=>R.up P) λ_ _ x=>x) λ_ _ x=>x;refine wpAny_Slice ?_;rw[N0,N1];refine rL<|tk<|tk ?_;induction x using Mine.Internal.V.casesOn with
 |str st=>
  refine aZ kk λJ L q=>o.dc λ_=>?_;have aw:(⟨st.toArray⟩:EJ).length=st.length:=by show st.toArray.size=_;rfl
  have P0:Post ae as aq {ae with toks:=ae.toks+1} as aq:=Post.toks ..;have f:=SBH.sliceItem_sn (prog:=n.prog) (w:=n.w) (A:=N) (E:=aQ) (s:={ae with toks:=ae.toks+1}) (x:=⟨st.toArray⟩) (t:=‹Tok›) (i:=(l:Int)) (ui:=ae.toks) (P:=λh=>∀p D,ae.heap.get? p=j' D->h.get? p=j' D) (Q:=Res n (RV n) ae as aq C) (λh ob hp p D e=>bR _ _<|hp p D e) (λ_ _ e=>e) (λh' t' k X=>?_)<|aw▸dU L;.refine cM f λT id hl hT hg=>gK hT hl hg
  .refine rM (r:=ae) I1 ?_ q h' t' k X;rw[slice_from_eq (b:=(st.length:Int)) (by exact aB 0x1790009 rfl) (aw▸aE 0x1dbc83205020 rfl J)<|aw▸rfl];congr 2;simp only[FM];rw[Kc];simp|tup z=>
  refine bM kk λh0 J L q=>o.di λt Y y M g rs=>?_;have hl:=rs.length;refine aN (lV (r:=ae) (v1:=.int l ae.toks) (v2:=.none) (v3:=.none) (aO:=ae.toks+1) I1) λP1 S=>?_;have g':=bR (D:={cls:=.type "slice",data:=.fields #[.int l ae.toks,.none,.none]}) t _ g;refine gK (T:="tuple") ⟨_,g',rfl⟩ I_.lookup (getItem_tuple_from (a:=l) (u:=ae.toks) (items:=Y.toArray) ⟨_,g',rfl,y,rfl⟩ (JP ..) h0 (by simp;exact aT 0x77b4102c115020 rfl J hl) ?_<|by simpa[hl]using dU L);have rd:Reps n.w ae.heap as (Y.drop l)<|z.drop l:=by exact rs.drop l
  have:=Res.up P1<|hG (r:={ae with heap:=ae.heap.push {cls:=.type "slice",data:=.fields #[.int l ae.toks,.none,.none]},toks:=ae.toks+1}) (aO:=ae.toks+1) (l:=0) (C:=C) Do S (P1.du I1 rd) q;exact this|_=>exact kk.elim
set_option tactic.hygienic true in
theorem xJ{W W':WV}(he:aK n sc G e W)(hu:aK n sc G aj W'):aK n sc G (.Subscript e (.Slice kf (j' aj) kf p2) ar) λm H C=>W m H λov H=>W' m H λK H=>av (bN K) λl=>0<=l/\l<1000000/\match ov with|.str r=>l.toNat<=r.length/\r.length<=aR/\C (.str<|r.take l.toNat) H|.lst z=>z.length<=aR/\C (.lst<|z.take l.toNat) H|_=>False:=by intro aa N r Z H m C O I F h;refine NJ<|bB he O I F h λb Z0 H0 d x P0 I0 F0 o kk=>?_;refine wpAny_Slice ?_;rw[N0,N1];refine tk<|bB hu O I0 F0 kk λae as aq p u P1 I1 F1 r1 kk=>?_;have P:=P0.trans P1;replace o:=P1.rep I0 o;refine eF r1 kk λl _ kk=>?_;rename_i t1;refine aZ kk λh0 i kk=>tk<|EK (Q:=Res n (RV n) ae as aq C) ?_ (λ_ _ R=>R.up P) λ_ _ x=>x;induction x using Mine.Internal.V.casesOn with
 |str st=>
  refine aZ kk λJ L q=>o.dc λ_=>?_;have aw:(⟨st.toArray⟩:EJ).length=st.length:=by show st.toArray.size=_;rfl
  have f:=SBH.sliceItem_ns (prog:=n.prog) (w:=n.w) (A:=N) (E:=aQ) (s:=ae) (x:=⟨st.toArray⟩) (t:=‹Tok›) (j:=l) (uj:=t1) (P:=λh=>∀p D,ae.heap.get? p=j' D->h.get? p=j' D) (Q:=Res n (RV n) ae as aq C) (λh ob hp p D e=>bR _ _<|hp p D e) (λ_ _ e=>e) (λh' t' k X=>?_)<|aw▸dU L;.refine cM f λT id hl hT hg=>gK hT hl hg
  .refine rM (r:=ae) I1 ?_ q h' t' k X;rw[beq_iff_eq.mp<|slice_closes_toL (x:=⟨st.toArray⟩) (j:=l) h0<|by rw[aw];exact Int.toNat_le.mp J];simp|lst z=>
  refine aN kk λL q=>o.ez λt Y y M g rs=>?_;refine aN (lV (r:=ae) (v1:=.none) (v2:=.int l t1) (v3:=.none) (aO:=ae.toks) I1) λac S=>?_;have g':=bR (D:={cls:=.type "slice",data:=.fields #[.none,.int l t1,.none]}) t _ g;refine gK (T:="list") ⟨_,g',rfl⟩ K9 (Mp (items:=Y.toArray) (lo:=kf) (hi:=j' l) (st:=kf) ⟨_,g',rfl,y,rfl⟩ (JP ..) .none (.int _ _) .none (by trivial) ?_<|by simpa[rs.length]using dU L);have rd:Reps n.w ae.heap as (Y.take l.toNat)<|z.take l.toNat:=by exact rs.take _
  have e1:slicePick Y.toArray kf (j' l) kf=(Y.take l.toNat).toArray:=by have a:l=(l.toNat:Int):=(JA h0).symm;rw[a,slicePick_upto' Y.toArray l.toNat];rfl
  exact e1▸Res.up ac (hG (r:={ae with heap:=ae.heap.push {cls:=.type "slice",data:=.fields #[.none,.int l t1,.none]}}) (aO:=ae.toks) (l:=0) (C:=C) EF S (ac.du I1 rd) q)|_=>exact kk.elim
end
theorem xK(w g:Nat->Option α):∀l,(∀i,i<l->w i=g i)->(E3 l).filterMap w=(E3 l).filterMap g:=by intro v;induction v with|zero=>intro g1;exact rfl|succ l ih=>intro h;rw[KO,No,No,ih λi hi=>h i<|aE 0x3b57052105420 rfl hi];rw[IR,IR,h l<|Fq l];rfl
theorem xL(items:Array EI):slicePick items kf kf (j'<|-1)=(items.toList.reverse).toArray:=by
 have hb:sliceBounds kf kf (j'<|-1) items.size=((items.size:Int)-1,-1,-1):=by rfl
 dsimp only[slicePick];rw[hb];dsimp only[sliceRange];have hc:(if(-1:Int)>0 then(if(items.size:Int)-1< -1 then(-1-((items.size:Int)-1)+-1-1)/ -1 else 0)else if(items.size:Int)-1>-1 then((items.size:Int)-1- -1- -1-1)/(- -1)else 0).toNat=items.size:=by
  rw[aC dd];split
  .have:(items.size:Int)-1- -1- -1-1=items.size:=by exact aB 0x66407852f9852f9852f0a640 rfl
   rw[this];show((items.size:Int)/1).toNat=_;rw[Int.ediv_one];exact FM _
  .exact(aB 0x76c0483d87853204c29 rfl ‹_›:items.size=0).symm
 simp only[hc];congr 1;rw[Og];rw[xK _ (λi=>items.reverse[i]?) items.size]
 .have:=pick_run items.reverse 0 items.size;rw[Og]at this;have e2:((λx=>items.reverse[x]?)∘λx=>0+x)=λi=>items.reverse[i]?:=by funext x;simp
  rw[e2]at this;rw[this];rw[Lb,Array.toList_reverse];exact Kc<|by simp
 .intro i hi;have e:((items.size:Int)-1+-1*(i:Int)).toNat=items.size-1-i:=by have e2:(items.size:Int)-1+-(i:Int)=((items.size-1-i:Nat):Int):=aE 0x1dcc9e07852174e40785320d420 rfl hi;rw[IB,J_,e2];exact FM _
  simp only[Function.comp,e];rw[Array.getElem?_reverse hi]
theorem xM(hs:r.heap.IsSliceOf b .none .none<|.int (-1) aj)(h:C ((1:Int),-1,2) r):Ey (EE al A) N (LN (.ref b)<|pure ((2:Nat):Int)) C aD r:=by refine a4 (id hs) λos a aK j=>?_;delta LN Builtin.Slice.sliceFields;refine s0<|s0<|Jf a j (x:=.none) rfl<|s0<|Jf a j (x:=.none) rfl<|s0<|Jf a j (x:=.int (-1) aj) rfl<|tk ?_;refine s0<|slicePart_int ?_;show Ey _ _ (if((-1:Int)==0)=Do then _ else _) _ _ r;refine cP dd<|s0<|slicePart_none<|s0<|slicePart_none<|s0<|tk ?_;exact tk h
theorem xN(g:r.heap.get? t=j' (FF "tuple" #[d,p] l))(hs:r.heap.IsSliceOf b .none .none<|.int (-1) aj)(h:C (.ref r.heap.objs.size) {r with heap:=r.heap.push {cls:=.type "tuple",data:=.seq #[p,d]}}):Ey (EE al A) N (Nn (.ref t)<|.ref b) C aD r:=by
 have ht:IsTup r.heap t #[d,p]:=⟨_,g,rfl,l,rfl⟩;refine a4 (id hs) λos a aK j=>?_;have f:r.TypeIs (.ref b) "slice":=⟨os,a,aK⟩;delta Nn;try with_reducible refine E4 ?_
 refine bnd (λ_ k=>J6 ht.typeIs dd k)<|s0<|F' (name:=Et "__getitem__") ht.typeIs I_<|Fs I_ ht.typeIs entry_tuple_getitem ?_<|args_tuple_getitem _ _;show Ey _ _ (LG (.ref t)>>=_) _ _ r;refine bnd (λ_ k=>tupleItemsOf_ ht k)<|bnd (λ_ k=>KP f k)<|ie dd<|bnd (λ_ k=>xM hs k) ?_;have D:sizeOk<|.seq #[p,d]:=by show(2:Nat)<=sizeLine;rw[Gp];decide
 have e:((E3 2).filterMap λ(k:Nat)=>(#[d,p]:Array EI)[((1:Int)+(k:Int)*-1).toNat]?).toArray=#[p,d]:=rfl;show Ey _ _ (if((1:Int)==0&&(-1:Int)==1&&2==2)=Do then _ else _) _ _ r;rw[aC dd,e];first|exact s0 (m:=IK _)<|Fu (tk ⟨_,rfl,tk h⟩) D|exact s0 (m:=IK _)<|Fu (cb<|tk ⟨_,rfl,tk h⟩) D|exact s0<|s0 (m:=IK _)<|Fu (tk<|tk ⟨_,rfl,tk h⟩) D|exact s0<|s0 (m:=IK _)<|Fu (tk ⟨_,rfl,tk h⟩) D
theorem Reps.reverse(o:Reps A h Z Y z):Reps A h Z Y.reverse z.reverse:=o.ind (P:=λY z=>Reps A h Z Y.reverse z.reverse) .nil λo _ ih=>OI.symm▸OI.symm▸ih.snoc o
section
variable{n:a_}{sc:List<|EJ×Fv}{G:Nat}{ab:CW}
theorem xO{W:WV}(he:aK n sc G e W):aK n sc G (.Subscript e (.Slice kf kf (j'<|.UnaryOp .USub (.Constant (.int 1) k p1) p3) p2) ar) λm H C=>W m H λov H=>match ov with|.tup z=>∃d p,z=[d,p]/\C (.tup [p,d]) H|.lst z=>z.length<=aR/\C (.lst z.reverse) H|_=>False:=by intro aa N r Z H m C O I F h;refine NJ<|bB he O I F h λae as aq d x P I1 F1 o kk=>EK (Q:=λi s2=>Ey (EE n.prog n.w) N (IX e _ d i) (Res n (RV n) ae as aq C) aQ s2) ?_ (λi s2 L=>EK L (λ_ _ R=>R.up P) λ_ _ x=>x) λ_ _ x=>x;refine wpAny_Slice ?_;rw[N0,N1];refine tk<|tk<|NZ<|rL<|NI ?_;induction x using Mine.Internal.V.casesOn with|tup z=>refine bn kk λa b s q=>?_;clear kk;subst s;refine o.di λt Y y M g rs=>?_;revert g;refine rs.b7 λv1 f r1 rs=>rs.b7 λv2 j r2 rs=>rs.et λg=>?_;refine aN (lV (r:=ae) (v1:=.none) (v2:=.none) (v3:=.int (-1)<|ae.toks+1) (aO:=ae.toks+1+1) I1) λP1 S=>?_;have g':=bR (D:={cls:=.type "slice",data:=.fields #[.none,.none,.int (-1)<|ae.toks+1]}) t _ g;refine gK (T:="tuple") ⟨_,g',rfl⟩ I_.lookup<|xN g' (JP ..) ?_;exact Res.up P1<|hG (r:={ae with heap:=ae.heap.push {cls:=.type "slice",data:=.fields #[.none,.none,.int (-1)<|ae.toks+1]},toks:=ae.toks+1+1}) (aO:=ae.toks+1+1) (l:=0) (C:=C) Do S (P1.du I1<|.cons r2<|.cons r1 .nil) q|lst z=>refine aN kk λL q=>o.ez λt Y y M g rs=>?_;refine aN (lV (r:=ae) (v1:=.none) (v2:=.none) (v3:=.int (-1)<|ae.toks+1) (aO:=ae.toks+1+1) I1) λac S=>?_;have g':=bR (D:={cls:=.type "slice",data:=.fields #[.none,.none,.int (-1)<|ae.toks+1]}) t _ g;refine gK (T:="list") ⟨_,g',rfl⟩ K9 (Mp (items:=Y.toArray) (lo:=kf) (hi:=kf) (st:=j'<|-1) ⟨_,g',rfl,y,rfl⟩ (JP ..) .none .none (.int _ _) (by trivial) ?_<|by simpa[rs.length]using dU L);rw[xL];exact Res.up ac<|hG (r:={ae with heap:=ae.heap.push {cls:=.type "slice",data:=.fields #[.none,.none,.int (-1)<|ae.toks+1]},toks:=ae.toks+1+1}) (aO:=ae.toks+1+1) (l:=0) (C:=C) EF S (ac.du I1 rs.reverse) q|_=>exact kk.elim
end
noncomputable def jk:List String:=["len","tuple","sorted","set","list","max","min","sum","range","enumerate","int","str"]
def hK(n:a_):Prop:=∀l∈jk,n.mg (Et l)=kf
section
variable{aa:IC}
theorem kn{id:String}{first:List EI}{ar:J3}{args:List Ff}{C:EI->EQ->Prop}(hs:args.all a5=Do)(h:Ey (EE al A) N (Lc<|HH ar<|GQ args aa) (λY ae=>Ey (EE al A) N (Hg (.builtin id)<|first++Y) C aD ae) aD r):Ey (EE al A) N (Mm ar (.builtin id) first (HH ar<|GQ args aa) []) C aD r:=callWith_builtin_kwB (lU aa ar hs).1 rfl<|nY hs h
theorem lW{T:String}{ar:J3}{args:List Ff}{C:EI->EQ->Prop}(hs:args.all a5=Do)(h:Ey (EE al A) N (Lc<|HH ar<|GQ args aa) (λY ae=>Ey (EE al A) N (Hg (.type T) Y) C aD ae) aD r):Ey (EE al A) N (Mm ar (.type T) [] (HH ar<|GQ args aa) []) C aD r:=PyProof.Rows.callWith_type (lU aa ar hs).1<|nY hs h
end
section
variable{ab:CW}
theorem xP{e:Ff}{a ar:J3}{W:WV}{K:V->Hp->(V->Hp->Prop)->Prop}(B:hK n)(hn:l∈jk)(X:sc.lookup (Et l)=j' .globalImplicit)(hd:(Et l==("__debug__":EJ))=EF)(E:Et l≠"__name__")(hb:JO (Et l)=j' v)(hv:(∃id,v=.builtin id)\/∃T,v=.type T)(hs:a5 e=Do)(he:aK n sc G e W)(k:∀{N}{r}{Z}{H}{C}{d}{x},bQ G N->Inv n r.heap Z H->Rep n.w r.heap Z d x->K x H C->Ey (EE n.prog n.w) N (Hg v [d]) (Res n (RV n) r Z H C) aQ r):aK n sc G (.Call (.Name (Et l) a) [e] [] ar) λm H C=>W m H λx H=>K x H C:=by
 intro aa N r Z H m C O I F h;have y:[e].all a5=true:=by simp[hs]
 refine Kw rfl<|kl I F X hd E (B l hn) hb ?_;have s:Ey (EE n.prog n.w) N (Lc<|HH ar<|GQ [e] aa) (λY ae=>Ey (EE n.prog n.w) N (Hg v Y) (Res n (RV n) r Z H C) aQ ae) aQ r:=by rw[fR hs,fS];refine HJ<|bB he O I F h λae as aq d x P I1 F1 o kk=>Ht ?_;exact eG P<|k O I1 o kk
 clear hb k;rcases hv with⟨id,rfl⟩|⟨T,rfl⟩;.exact kn y s
 .exact lW y s
theorem rN{e1 e2:Ff}{a ar:J3}{W1 W2:WV}{K:V->V->Hp->(V->Hp->Prop)->Prop}(B:hK n)(hn:l∈jk)(X:sc.lookup (Et l)=j' .globalImplicit)(hd:(Et l==("__debug__":EJ))=EF)(E:Et l≠"__name__")(hb:JO (Et l)=j' v)(hv:(∃id,v=.builtin id)\/∃T,v=.type T)(hs:a5 e1=Do)(de:a5 e2=Do)(he:aK n sc G e1 W1)(w:aK n sc G e2 W2)(k:∀{N}{r}{Z}{H}{C}{d p}{x u},bQ G N->Inv n r.heap Z H->Rep n.w r.heap Z d x->Rep n.w r.heap Z p u->K x u H C->Ey (EE n.prog n.w) N (Hg v [d,p]) (Res n (RV n) r Z H C) aQ r):aK n sc G (.Call (.Name (Et l) a) [e1,e2] [] ar) λm H C=>W1 m H λx H=>W2 m H λu H=>K x u H C:=by
 intro aa N r Z H m C O I F h;have y:[e1,e2].all a5=true:=by simp[hs,de]
 refine Kw rfl<|kl I F X hd E (B l hn) hb ?_;have s:Ey (EE n.prog n.w) N (Lc<|HH ar<|GQ [e1,e2] aa) (λY ae=>Ey (EE n.prog n.w) N (Hg v Y) (Res n (RV n) r Z H C) aQ ae) aQ r:=by rw[fR hs,fS,fR de,fS];refine HJ<|bB he O I F h λae as aq d x P I1 F1 o kk=>HJ<|bB w O I1 F1 kk λs2 Z2 H2 p u P2 S F2 r2 kk=>Ht ?_;exact eG (P.trans P2)<|k O S (P2.rep I1 o) r2 kk
 clear hb k;rcases hv with⟨id,rfl⟩|⟨T,rfl⟩;.exact kn y s
 .exact lW y s
end
section
variable{x u:V}
def rO(x:V)(H:Hp)(C:V->Hp->Prop):Prop:=match x with|.str r=>r.length<=aR/\C (.int r.length) H|v=>av (bT H v) λz=>z.length<=aR/\C (.int z.length) H
theorem xQ(I:Inv n r.heap Z H)(o:Rep n.w r.heap Z d x)(h:rO x H C):Ey (EE n.prog n.w) N (Hg (.builtin "len") [d]) (Res n (RV n) r Z H C) aQ r:=by
 have a:∀{z},bT H x=j' z->z.length<=aR/\C (.int z.length) H->Ey (EE n.prog n.w) N (Hg (.builtin "len") [d]) (Res n (RV n) r Z H C) aQ r:=by
  intro z E h;refine e9 (fl I o E) λt Y l c s g q hc=>?_;subst s;have hl:=q.length;have aa:(Y.toArray.size:Int)<2^63:=by have:=h.1;unfold aR at this;simp;exact aE 0x77b840000000000000003572053d09008b0d820 rfl hl this
  have e:((Y.toArray.size:Nat):Int)=(z.length:Int):=by simp[hl]
  induction c;.refine Calls.call_len_list ⟨_,g,rfl,l,rfl⟩ aa ?_;rw[e];exact gJ I h.2 rfl
  .refine P.len_tuple g (KC.mpr aa) ?_;rw[e];exact gJ I h.2 rfl
 induction x using Mine.Internal.V.casesOn with|str st=>have e:(⟨st.toArray⟩:EJ).length=st.length:=Fk;refine o.dc λp=>PyProof.Rows.len_str (by rw[e];exact KC.mpr<|E7 (HP.mpr h.1) (dd:((aR:Nat):Int)<2^63)) ?_;rw[e];exact gJ I h.2 rfl|none=>exact h.elim|bool=>exact h.elim|int=>exact h.elim|tup z=>exact a rfl h|lst z=>exact a rfl h|br=>exact h.elim|ref t=>exact dK (D:=bT H<|.ref t) h λz E h=>a E h
theorem xR(I:Inv n r.heap Z H)(o:Rep n.w r.heap Z d x)(h:av (bT H x) λz=>z.length<=aR/\C (.tup z) H):Ey (EE n.prog n.w) N (Hg (.type "tuple") [d]) (Res n (RV n) r Z H C) aQ r:=by cases E:bT H x with|none=>rw[E]at h;exact h.elim|some z=>
  rw[E]at h;refine e9 (fl I o E) λt Y l c s g q hc=>?_;subst s;have hl:=q.length;induction c;.refine call_tuple_list ⟨_,g,rfl,l,rfl⟩ (λh' X=>?_) (by simpa[hl]using dU h.1);refine jh (l:=0) Do I (λp D e=>bR _ _<|X _ _ e) ?_ (ES _ rfl) q h.2;cases e:r.heap.get? h'.objs.size with|none=>rfl|some D=>exact aJ (E_<|X _ _ e)<|GN _
  .refine call_tuple_same ⟨_,g,rfl,l,rfl⟩<|ax (hc.mp rfl) λys s=>?_;clear hc;subst s;obtain rfl:=EA E;exact cQ I o h.2
theorem rP(I:Inv n r.heap Z H)(o:Rep n.w r.heap Z d x)(E:bT H x=j' z)(ac:z.length<=aR)(h:∀h' c' Y,(∀p o',r.heap.get? p=j' o'->h'.get? p=j' o')->Reps n.w r.heap Z Y z->h'.get? r.heap.objs.size=j' (FF "list" Y.toArray c')->R (.ref r.heap.objs.size) {r with heap:=h'}):Ey (EE n.prog n.w) N (Hg (.type "list") [d]) R aQ r:=by
 refine e9 (fl I o E) λt Y l c s g q hc=>?_;clear o;subst s;have hl:=q.length;have a:Y.toArray.size<=sizeLine:=by simpa[hl]using dU ac
 induction c;.exact call_list_seq (hsz:=a) t (.inl rfl) g rfl rfl λh' c' X hD=>h h' c' Y X q hD
 .exact call_list_seq (hsz:=a) t (.inr rfl) g rfl rfl λh' c' X hD=>h h' c' Y X q hD
theorem xS(I:Inv n r.heap Z H)(o:Rep n.w r.heap Z d x)(h:av (bT H x) λz=>z.length<=aR/\C (.lst z) H):Ey (EE n.prog n.w) N (Hg (.type "list") [d]) (Res n (RV n) r Z H C) aQ r:=by cases E:bT H x with|none=>rw[E]at h;exact h.elim|some z=>rw[E]at h;exact rP I o E h.1 λh' c' Y X q hD=>jh (aO:=r.toks) (l:=c') EF I X (e0 r) hD q h.2
theorem xT(I:Inv n r.heap Z H)(o:Rep n.w r.heap Z d x)(h:av (bT H x) λz=>z.length<=aR/\∀d,H d=kf->C (.ref d) (H.set d<|.list z)):Ey (EE n.prog n.w) N (Hg (.type "list") [d]) (Res n (RV n) r Z H C) aQ r:=by cases E:bT H x with|none=>rw[E]at h;exact h.elim|some z=>rw[E]at h;refine rP I o E h.1 λh' c' Y X q hD=>aN (nN (po:=.list z) (aO:=r.toks) I X (e0 r) ⟨Y,c',hD,q.mono (λp M=>M) λp p p e=>X _ _ e⟩ ⟨_,hD⟩ λp p p e=>nomatch e) λj I'=>⟨Z,_,_,j,I',.ref _,h.2 _<|I.bu<|e0 r⟩
theorem im(o:Reps A h Z Y z)(e:ca z=j' is):Np Y is/\z=is.map V.int:=by revert is;refine o.ind (P:=λY z=>∀{is},ca z=j' is->Np Y is/\z=is.map V.int) (λe=>EA e▸⟨.nil,rfl⟩) λ{v x Y z}o _ ih is e=>?_;induction x using Mine.Internal.V.casesOn with|int i=>refine aA (EY.mp e) λjs J L=>?_;have I:=ih J;exact L▸o.d3 λt=>⟨.cons i t I.1,aY _ I.2⟩|_=>exact aP e
theorem ko(hi:Np Y is):Reps A h Z Y<|is.map V.int:=by induction hi with|nil=>exact .nil|cons l t _ ih=>exact .cons (.int l t) ih
theorem rQ(is:List Int):ca (is.map V.int)=j' is:=by induction is with|nil=>rfl|cons i o ih=>show(ca<|o.map V.int).map (i::·)=_;rw[ih];rfl
theorem xU(I:Inv n r.heap Z H)(o:Rep n.w r.heap Z d x)(E:bP H x=j' z)(h:av (ca z) λis=>is.length<64/\∀js,hC is js->C (.lst<|js.map V.int) H):Ey (EE n.prog n.w) N (Hg (.builtin "sorted") [d]) (Res n (RV n) r Z H C) aQ r:=by
 refine aN (hI E) λE ht=>e9 (fl I o E) λt Y l c s g q hc=>?_;clear o;subst s;have e:c=false:=by induction c;rfl;refine ax (hc.mp rfl) λys e=>?_;exact aJ e<|ht ys
 clear hc;subst e;cases hi:ca z with|none=>rw[hi]at h;exact h.elim|some is=>
  rw[hi]at h;refine aN (im q hi) λJ L=>?_;have aw:Y.length=is.length:=by rw[q.length,L,Ex]
  refine sorted_ints (ns:=is) ⟨_,g,rfl,l,rfl⟩ J (aw▸h.1) λj js aa S w=>ax (sortedAll_at r.heap Y j) λe he=>?_;have hd:r.heap.get? (r.heap.objs.size+1)=.none:=Gg<|GV _;exact jh (aO:=r.toks) (l:=e) EF I (λp D e=>sortedAll_old e) hd (Y:=j.toList) (z:=js.map V.int) he (ko aa)<|h.2 js ⟨S,w⟩
end
section
variable{x u:V}
theorem io{i:Int}{t:Tok}{h':F6}{aO:Nat}(I:Inv n r.heap Z H)(X:∀p D,r.heap.get? p=j' D->h'.get? p=j' D)(q:C (.int i) H):Res n (RV n) r Z H C (.int i t) {r with heap:=h',toks:=aO}:=⟨Z,H,.int i,fP X,I.ext X,.int _ _,q⟩
theorem xV(hh:N.handled=kf)(I:Inv n r.heap Z H)(o:Rep n.w r.heap Z d x)(h:eD Do H [x] λv=>C v H):Ey (EE n.prog n.w) N (Hg (.builtin "max") [d]) (Res n (RV n) r Z H C) aQ r:=by unfold eD at h;dsimp only at h;cases E:bP H x with|none=>rw[E]at h;exact h.elim|some z=>rw[E,c6]at h;cases hi:ca z with|none=>rw[hi]at h;exact h.elim|some is=>
   rw[hi,c6]at h;refine aN (hI E) λE ht=>e9 (fl I o E) λt Y l c s g q hc=>?_;clear o;subst s;have e:c=false:=by induction c;rfl;refine ax (hc.mp rfl) λys e=>?_;exact aJ e<|ht ys
   clear hc;subst e;refine aN (im q hi) λJ L=>ax J.allInts.items λK e=>?_;have ad:is=K.toList.map (·.1):=by rw[<-J.numsOf,<-N2,<-e]
   have ac:0<K.size:=by have b:is≠[]:=h.1;rw[ad]at b;have:K.toList≠[]:=λe=>b<|e▸rfl;exact EU▸N'.mpr this
   have hl:r.heap.IsList t<|intItems K:=e▸⟨_,g,rfl,l,rfl⟩;refine max_intList hh hl ac λv h' aO hv X=>ax (intItems_at hv) λt' s=>?_;clear hv;subst s;refine aN (argBest_gt (numAt K)<|K.size-1) λaa S=>io I X<|h.2 _ ?_ λi hi=>?_;.rw[ad,NK];exact Nq<|by rw[Ex,EU];exact aE 0x77b50068f0a401a8009 rfl ac aa
   .rw[ad]at hi;refine aA (mem_getD hi) λa hj s=>?_;clear hi;subst s;rw[Ex,EU]at hj;rw[aF rfl];rw[<-NK];exact S a<|aE 0x3b47852105420 rfl hj
theorem xW(hh:N.handled=kf)(I:Inv n r.heap Z H)(o:Rep n.w r.heap Z d x)(h:eD EF H [x] λv=>C v H):Ey (EE n.prog n.w) N (Hg (.builtin "min") [d]) (Res n (RV n) r Z H C) aQ r:=by unfold eD at h;dsimp only at h;cases E:bP H x with|none=>rw[E]at h;exact h.elim|some z=>rw[E,c6]at h;cases hi:ca z with|none=>rw[hi]at h;exact h.elim|some is=>
   rw[hi,c6]at h;refine aN (hI E) λE ht=>e9 (fl I o E) λt Y l c s g q hc=>?_;clear o;subst s;have e:c=false:=by induction c;rfl;refine ax (hc.mp rfl) λys e=>?_;exact aJ e<|ht ys
   clear hc;subst e;refine aN (im q hi) λJ L=>ax J.allInts.items λK e=>?_;have ad:is=K.toList.map (·.1):=by rw[<-J.numsOf,<-N2,<-e]
   have ac:0<K.size:=by have b:is≠[]:=h.1;rw[ad]at b;have:K.toList≠[]:=λe=>b<|e▸rfl;exact EU▸N'.mpr this
   have hl:r.heap.IsList t<|intItems K:=e▸⟨_,g,rfl,l,rfl⟩;refine min_intList hh hl ac λv h' aO hv X=>ax (intItems_at hv) λt' s=>?_;clear hv;subst s;refine aN (argBest_lt (numAt K)<|K.size-1) λaa S=>io I X<|h.2 _ ?_ λi hi=>?_;.rw[ad,NK];exact Nq<|by rw[Ex,EU];exact aE 0x77b50068f0a401a8009 rfl ac aa
   .rw[ad]at hi;refine aA (mem_getD hi) λa hj s=>?_;clear hi;subst s;rw[Ex,EU]at hj;rw[aC E2];rw[<-NK];exact S a<|aE 0x3b47852105420 rfl hj
set_option tactic.hygienic true in
theorem rR(o:Bool)(hh:N.handled=kf)(I:Inv n r.heap Z H)(j:Rep n.w r.heap Z d x)(b:Rep n.w r.heap Z p u)(h:eD o H [x,u] λv=>C v H):Ey (EE n.prog n.w) N (Hg (.builtin<|if o then"max"else"min") [d,p]) (Res n (RV n) r Z H C) aQ r:=by
 unfold eD at h;dsimp only at h;refine eF j h λi c h=>eF b h λa c h=>?_;induction o
 .refine min_two_ints hh λh' aO X=>?_;rw[aC E2]at h;split;.rename_i q;rw[aF q]at h;exact io I X h
  .rename_i q;rw[aC q]at h;exact io I X h
 .refine max_two_ints hh λh' aO X=>?_;rw[aF rfl]at h;split;.rename_i q;rw[aF q]at h;exact io I X h
  .rename_i q;rw[aC q]at h;exact io I X h
theorem rS(val:Nat->Int)(is:List Int)(hv:∀i,i<is.length->val i=is.getD i 0):∀k,k<=is.length->preSum val k=(is.take k).sum:=by intro v;induction v with|zero=>intro g;exact rfl|succ k ih=>
  intro X;show preSum val k+val k=_;rw[ih<|aE 0x3b40828170520 rfl X,hv k<|aE 0x3b50828170520 rfl X,OJ];have:is[k]?=j' (is.getD k 0):=by rw[E9,EL<|by exact aE 0x3b50828170520 rfl X];rfl
  rw[this];simp[KQ]
theorem xX:∀(is:List Int),(∀i∈is,0<=i/\i<=1000000)->0<=is.sum/\is.sum<=1000000*is.length:=by intro v;induction v with|nil=>intro g;trivial|cons i o ih=>intro h;have J:=h i<|.head _;have L:=ih λa hj=>h a<|.tail _ hj;rw[HD,Fi];have:((o.length+1:Nat):Int)=(o.length:Int)+1:=aB 0x65c14c81270520 rfl;rw[this,MT,Int.mul_one,KA i];exact⟨Int.add_nonneg L.1 J.1,Ji L.2 J.2⟩
theorem xY(hh:N.handled=kf)(I:Inv n r.heap Z H)(o:Rep n.w r.heap Z d x)(h:av (bP H x) λz=>av (ca z) λis=>is.length<=1000/\(∀i∈is,0<=i/\i<=1000000)/\C (.int is.sum) H):Ey (EE n.prog n.w) N (Hg (.builtin "sum") [d]) (Res n (RV n) r Z H C) aQ r:=by cases E:bP H x with|none=>rw[E]at h;exact h.elim|some z=>rw[E,c6]at h;cases hi:ca z with|none=>rw[hi]at h;exact h.elim|some is=>
   rw[hi,c6]at h;refine aZ h λG hb q0=>aN (hI E) λE ht=>e9 (fl I o E) λt Y l c s g q hc=>?_;clear o;subst s;have e:c=false:=by induction c;rfl;refine ax (hc.mp rfl) λys e=>?_;exact aJ e<|ht ys
   clear hc;subst e;refine aN (im q hi) λJ L=>ax J.allInts.items λK e=>?_;have ad:is=K.toList.map (·.1):=by rw[<-J.numsOf,<-N2,<-e]
   have b:K.size=is.length:=by rw[ad,Ex,EU]
   have f:∀i,i<is.length->numAt K i=is.getD i 0:=λi hi=>by rw[NK,<-ad]
   have hl:r.heap.IsList t<|intItems K:=e▸⟨_,g,rfl,l,rfl⟩;have aI:∀i,i<is.length->0<=numAt K i/\numAt K i<=1000000:=λi hi=>by exact f i hi▸hb _ (Nq hi)
   refine sum_intList hh hl (λa hj=>?_) λh' aO t' X=>?_
   .have m:a<is.length:=by exact aT 0x77b508aa015820 rfl b hj
    have j:=rS (numAt K) is f (a+1)<|aT 0x3bda05c148aa015820 rfl b hj;have M:=aI a m;have ae:=xX (is.take<|a+1) λi hi=>hb i<|NL hi;have am:(is.take<|a+1).length<=1000:=Hh▸aE 0xed3e85400e0a434fa140 rfl G;refine⟨⟨EC dd M.1,E7 M.2 dd⟩,⟨?_,?_⟩⟩;.rw[j];exact EC dd ae.1
    .rw[j];exact E7 ae.2<|E7 (K5 (HP.mpr am) dd) dd
   .exact(rS (numAt K) is f K.size<|aE 0x768105820 rfl b)▸b▸Kn▸io I X q0
theorem xZ(I:Inv n r.heap Z H)(o:Rep n.w r.heap Z d x)(h:av (h6 x) λr=>av (gG r) λi=>C (.int i) H):Ey (EE n.prog n.w) N (Hg (.type "int") [d]) (Res n (RV n) r Z H C) aQ r:=by
 refine vr o h λst t h=>dK h λi e q=>?_;have all:∀j∈pZ,PySem.intText? ⟨j.1.toArray⟩=j' j.2/\(⟨j.1.toArray⟩:EJ).length<=640:=by decide+kernel
 have g:=all _<|pW e;exact KIN.call_text g.1 g.2<|gJ I q rfl
theorem x0(I:Inv n r.heap Z H)(o:Rep n.w r.heap Z d x)(h:av (bN x) λi=>0<=i/\i<10/\C (.str [48+i.toNat]) H):Ey (EE n.prog n.w) N (Hg (.type "str") [d]) (Res n (RV n) r Z H C) aQ r:=by
 refine eF o h λi p h=>aZ h λh0 J q=>?_;have e:∀l:Nat,l<10->Et (toString (l:Int))=⟨[48+l].toArray⟩:=by decide+kernel
 refine ax (Mz h0) λl s=>?_;clear h h0;subst s;have hn:l<10:=aB 0x3b55241852640 rfl J;refine P.str_of_int ?_ ?_
 .have:∀l:Nat,l<10->(l:Int).natAbs.log2<1920:=by decide
  exact this l hn
 .show Res n (RV n) r Z H C (.str (Et<|toString (l:Int)) r.toks) _;exact e l hn▸eT I (.str _ _) q
end
section
variable{aO:Nat}
theorem n3{t:EZ}{Y:List EI}{z:List V}{l:Nat}{w:Array EI->Array EI}{J:List EI}{a:List V}(I:Inv n r.heap Z H)(A:H t=j' (.list z))(g:r.heap.get? t=j' (FF "list" Y.toArray l))(hf:w Y.toArray=J.toArray)(o:Reps n.w r.heap Z J a):Post r Z H {r with heap:=r.heap.update t<|Ha w,toks:=aO} Z (H.set t<|.list a)/\Inv n (r.heap.update t<|Ha w) Z (H.set t<|.list a):=by
 refine ax (rJ "list" Y.toArray l w) λj e=>?_;have K:H t≠.none:=by rw[A];simp
 have g':(r.heap.update t<|Ha w).get? t=j' (FF "list" J.toArray j):=by rw[FY _ g<|by rw[e];rfl,e,hf]
 have o':∀p,p≠t->(r.heap.update t<|Ha w).get? p=r.heap.get? p:=(E5 r.heap t _).2;exact kh (po:=.list a) I ⟨_,A,by simp,by simp⟩ (λp ob hb e=>(o' p hb).trans e) ⟨_,j,g',Reps.bw I K o o'⟩ ⟨_,g'⟩<|by simp
end
section
variable{n:a_}{sc:List<|EJ×Fv}{G:Nat}{ab:CW}
theorem n4{N:GI}{r:EQ}{Z:EZ->Prop}{H:Hp}{t:EZ}{z:List V}{f:EJ}{id:String}{aD:EI->EQ->Prop}{C:EI×List EI->EQ->Prop}(I:Inv n r.heap Z H)(A:H t=j' (.list z))(i:Slot "list" f id)(p:typeOf (.builtin id)=pure (.type "method_descriptor"))(h:C (.builtin id,[.ref t]) r)(pl:J2 Bool):Ey (EE n.prog n.w) N (getMethod (.ref t) f pl) C aD r:=by refine bn (I.obj t _ A) λY l g o=>L1 ⟨_,g,rfl⟩ PySem.F.plainAttrs_list i p (λd e=>by injection e with e;subst e;exact bm _ g rfl) h
theorem jl{N:GI}{r:EQ}{t:EZ}{ds:List FX}{l:Nat}{f:EJ}{id:String}{aD:EI->EQ->Prop}{C:EI×List EI->EQ->Prop}(g:r.heap.get? t=j' (bb ds l))(i:Slot "dict" f id)(p:typeOf (.builtin id)=pure (.type "method_descriptor"))(h:C (.builtin id,[.ref t]) r)(pl:J2 Bool):Ey (EE n.prog n.w) N (getMethod (.ref t) f pl) C aD r:=L1 ⟨_,g,rfl⟩ PySem.F.plainAttrs_dict i p (λd e=>by injection e with e;subst e;exact bm _ g rfl) h
theorem lX(hs:a5 e=Do):HH ar (GQ [e] aa)=[(EF,Hb e aa)]:=by rw[fR hs,fS];rfl
theorem rT(hs:a5 e=Do)(y:a5 e'=Do):HH ar (GQ [e,e'] aa)=[(EF,Hb e aa),(EF,Hb e' aa)]:=by rw[fR hs,fS,fR y,fS];rfl
theorem x3(hb:eJ D=Do)(hs:a5 e=Do)(V:(a.endLine==ar.line)=Do)(ho:aK n sc G D Wo)(he:aK n sc G e b):aK n sc G (.Call (.Attribute D "append" a) [e] [] ar) λm H C=>Wo m H λov H=>av (cF ov) λd=>(∃z,H d=j' (.list z))/\b m H λv H=>av (H d) λob=>match ob with|.list z=>z.length<aR/\C .none (H.set d<|.list<|z++[v])|_=>False:=by intro aa N r Z H m C O I F h;refine gi hb (by simp[hs]) (by simp) V<|bB ho O I F h λae as aq d x P I1 F1 o k pl=>?_;refine g5 o k λt k=>aN k λs k=>ax s λi h0=>n4 I1 h0 PySem.F.slot_list_append PySem.F.type_list_append ?_ pl;rw[lX hs];refine PySem.P.append_list<|bB he O I1 F1 k λs2 Z2 H2 p u P2 S F2 r2 k=>?_;refine lD k λz A k=>aN k λac q=>bn (S.obj t _ A) λY l g o=>?_;refine dZ Y.toArray l (by have:=dU<|Fa ac;simpa[o.length]using this) g ?_;refine aN (n3 (aO:=s2.toks) (w:=λz=>z.push p) (J:=Y++[p]) S A g (by simp)<|o.snoc r2) λP3 I3=>⟨Z2,_,.none,(P.trans P2).trans P3,I3,.none,q⟩
theorem x4(hb:eJ D=Do)(hs:a5 e=Do)(V:(a.endLine==ar.line)=Do)(ho:aK n sc G D Wo)(he:aK n sc G e b):aK n sc G (.Call (.Attribute D "extend" a) [e] [] ar) λm H C=>Wo m H λov H=>av (cF ov) λd=>(∃z,H d=j' (.list z))/\b m H λv H=>av (bP H v) λys=>av (H d) λob=>match ob with|.list z=>z.length+ys.length<=aR/\C .none (H.set d<|.list<|z++ys)|_=>False:=by intro aa N r Z H m C O I F h;refine gi hb (by simp[hs]) (by simp) V<|bB ho O I F h λae as aq d x P I1 F1 o k pl=>?_;refine g5 o k λt k=>aN k λs k=>ax s λi h0=>n4 I1 h0 PySem.F.slot_list_extend PySem.F.type_list_extend ?_ pl;rw[lX hs];refine PySem.P.extend_list<|bB he O I1 F1 k λs2 Z2 H2 p u P2 S F2 r2 k=>?_;cases hy:bP H2 u with|none=>rw[hy]at k;exact k.elim|some ys=>
  rw[hy]at k;refine aN (hI hy) λhy j=>lD k λz A k=>aN k λac q=>bn (S.obj t _ A) λY l g o=>e9 (fl S r2 hy) λt2 ws y c s g2 q2 hc=>?_;clear r2;subst s;have e:c=false:=by induction c;rfl;refine ax (hc.mp rfl) λK e=>?_;exact aJ e<|j K
  clear hc;subst e;have hl:=o.length;have f:=q2.length;have hz:=dU ac;refine aN (n3 (aO:=s2.toks) (w:=λz=>z++ws.toArray) (J:=Y++ws) S A g (by simp)<|o.append q2) λP3 I3=>⟨t2,Y.toArray,ws.toArray,l,y,by simp;rw[hl];exact ED (EB _ _) hz,by simp;rw[hl,f];exact Iy hz,?_,rfl,g,g2,Z2,_,.none,(P.trans P2).trans P3,I3,.none,q⟩;simp[Builtin.List.listTooLong];intro _;rw[hl,f];exact hz
theorem x5(hb:eJ D=Do)(V:(a.endLine==ar.line)=Do)(ho:aK n sc G D Wo):aK n sc G (.Call (.Attribute D "pop" a) [] [] ar) λm H C=>Wo m H λov H=>av (cF ov) λd=>av (H d) λob=>match ob with|.list z=>∃ys u,z=ys++[u]/\ys.length<aR/\C u (H.set d<|.list ys)|_=>False:=by
 intro aa N r Z H m C O I F h;refine gi hb rfl (by simp) V<|bB ho O I F h λae as aq d x P I1 F1 o k pl=>?_;refine g5 o k λt k=>lD k λz A k=>cM k λys u s ac q=>?_;clear k;subst s;refine n4 I1 A PySem.F.slot_list_pop PySem.F.type_list_pop ?_ pl;refine bn (I1.obj t _ A) λY l g o=>?_;have hl:=o.length;have aw:Y.length=ys.length+1:=by simpa using hl
 refine aA (o.get (i:=ys.length) (x:=u)<|by simp) λv hv rv=>?_;have b:Reps n.w ae.heap as (Y.take ys.length) ys:=by have:=o.take ys.length;simpa using this
 show Ey _ _ (Mm ar (.builtin "list.pop") [.ref t] [] []) _ _ _;refine PySem.P.pop_list g (y:=v) (by rw[Fk,aw,Oh,He];exact hv) ?_ (by simp[aw];exact dU<|Nat.succ_le_of_lt ac);refine aN (n3 (aO:=ae.toks) (w:=λz=>z.eraseIdxIfInBounds<|Y.toArray.size-1) (J:=Y.take ys.length) I1 A g (by simp only[List.eraseIdxIfInBounds_toArray,Fk,aw,Oh];congr 1;rw[List.eraseIdx_eq_take_drop_succ,List.drop_of_length_le<|by exact aE 0x1da3829082ce0a420 rfl aw,FR]) b) λP3 I3=>?_;exact⟨as,_,u,P.trans P3,I3,P3.rep I1 rv,q⟩
end
structure DK(w:World)(s:Shared)(Z:Addr->Prop)(D:Addr)(key:Value)(es:List<|V×V)(x:V)(ds:List DictEntry)(ep:Nat):Prop where
 at_:s.heap.get? D=some (bb ds ep)rep:RepE w s.heap Z ds es
 ok:cZ es
 fits:bD es x
 key:Rep w s.heap Z key x
 sys:(D==sysModules)=false
section
variable{A:F7}
theorem rU(Q:EZ)(ab:EI)(w:List EI)(M1:EI)(b:w=[]/\M1=.none\/w=[M1]):MeetsIn al A (Im.«dict.get» ⟨.ref Q::ab::w,[]⟩) λN R r=>N.units+40<Gz/\∃Z f x ds ep,DK A r Z Q ab f x ds ep/\(dget f x=kf->∀t,R (.ok<|.ret M1) {r with toks:=t})/\∀v u,dget f x=j' u->Rep A r.heap Z v u->∀t,R (.ok<|.ret v) {r with toks:=t}:=.of_wp λN R r a=>by
  refine aN a λhu s=>g1 s λZ f x ds z2=>a4 z2 λep K J L=>?_;unfold Im.«dict.get»;refine s0 ?_;unfold Jy;refine s0<|Il (gI K.at_) ?_;clear a s z2;rcases b with⟨rfl,rfl⟩|rfl;.show Ey _ _ (pure (Q,ab,kf)) _ _ r;refine tk<|s0<|lQ (by show N.units+1+20<Gz;exact aE 0x1da85d44b8290542e0a140 rfl hu) K.at_ K.rep K.ok K.fits K.key (λE t=>?_) λv u hy rv t=>tk ⟨_,rfl,L v u hy rv t⟩;.show Ey _ _ (Oa Q ab>>=_) _ _ _;exact s0<|wpAny_missed_other K.sys<|tk ⟨_,rfl,J E t⟩
  .show Ey _ _ (pure (Q,ab,j' M1)) _ _ r;refine tk<|s0<|lQ (by show N.units+1+20<Gz;exact aE 0x1da85d44b8290542e0a140 rfl hu) K.at_ K.rep K.ok K.fits K.key (λE t=>?_) λv u hy rv t=>tk ⟨_,rfl,L v u hy rv t⟩;.show Ey _ _ (Oa Q ab>>=_) _ _ _;exact s0<|wpAny_missed_other K.sys<|tk ⟨_,rfl,J E t⟩
theorem x6(Q:EZ)(ab M1:EI):MeetsIn al A (Im.«dict.setdefault» ⟨[.ref Q,ab,M1],[]⟩) λN R r=>N.units+40<Gz/\∃Z f x ds ep u,DK A r Z Q ab f x ds ep/\Rep A r.heap Z M1 u/\f.length<=aR/\(∀i M,dget f x=j' M->Rep A r.heap Z i M->∀t,R (.ok<|.ret i) {r with toks:=t})/\(dget f x=kf->∀t h' y ad,h'.get? Q=j' (bb y ad)->RepE A r.heap Z y (f++[(x,u)])->(∀p,p≠Q->h'.get? p=r.heap.get? p)->R (.ok<|.ret M1) {r with heap:=h',toks:=t}):=.of_wp λN R r a=>by refine aN a λhu s=>g1 s λZ f x ds z2=>i9 z2 λep u K b ac J L=>?_;unfold Im.«dict.setdefault»;refine s0 ?_;unfold Jy;refine s0<|Il (gI K.at_) ?_;show Ey _ _ (pure (Q,ab,j' M1)) _ _ r;refine tk ?_;show Ey _ _ (if(Q==HB)=Do then _ else Nl Q ab M1>>=_) _ _ r;refine cP (K.sys▸E2)<|s0<|wM (by show N.units+1+20<Gz;exact aE 0x1da85d44b8290542e0a140 rfl hu) K.at_ K.rep K.ok K.fits K.key b ac (λi M hy rv t=>tk ⟨_,rfl,J i M hy rv t⟩) λE t h' y ad g o D=>tk ⟨_,rfl,L E t h' y ad g o D⟩
theorem x7(Q:EZ)(ab:EI)(j:(keyPart ab).isSome=Do):MeetsIn al A (Im.«dict.pop» ⟨[.ref Q,ab],[]⟩) λN R r=>N.units+40<Gz/\∃Z f x ds ep u,DK A r Z Q ab f x ds ep/\f.length<=aR/\dget f x=j' u/\∀v,Rep A r.heap Z v u->∀t h' y ad,h'.get? Q=j' (bb y ad)->RepE A r.heap Z y (cc f x)->(∀p,p≠Q->h'.get? p=r.heap.get? p)->R (.ok<|.ret v) {r with heap:=h',toks:=t}:=.of_wp λN R r a=>by refine aN a λhu s=>g1 s λZ f x ds z2=>hw z2 λep u K ac hy L=>?_;unfold Im.«dict.pop»;refine s0 ?_;unfold Jy;refine s0<|Il (gI K.at_) ?_;show Ey _ _ (pure (Q,ab,kf)) _ _ r;refine tk ?_;dsimp only;rw[aF j];refine s0<|tk ?_;rw[aC E2];refine s0<|wN (by show N.units+1+20<Gz;exact aE 0x1da85d44b8290542e0a140 rfl hu) K.at_ K.rep K.ok K.fits K.key ac hy λe re t h' y ad g o D=>?_;dsimp only[Option.isNone_some,Fh,if_false];exact s0<|wpAny_letGo<|tk ⟨e.val,rfl,L e.val re t h' y ad g o D⟩
end
section
variable{ab:CW}
theorem bQ.il(o:bQ G N):N.units+40<cLine:=by have:=o.u;exact aE 0x76a17050a0542e19140 rfl this
theorem x8(hb:eJ D=Do)(hs:a5 ke=Do)(V:(a.endLine==ar.line)=Do)(ho:aK n sc G D Wo)(X:aK n sc G ke w):aK n sc G (.Call (.Attribute D "get" a) [ke] [] ar) λm H C=>Wo m H λov H=>(∃f,cU H ov=j' f)/\w m H λkv H=>av (cU H ov) λf=>bD f kv/\C ((dget f kv).getD .none) H:=by intro aa N r Z H m C O I F h;refine gi hb (by simp[hs]) (by simp) V<|bB ho O I F h λae as aq d x P I1 F1 o k pl=>?_;refine aN k λs k=>ax s λaj h0=>gB (ik I1 o h0) λQ z n0 s g0 _ _ af=>?_;subst s;refine jl g0 Jl Nr ?_ pl;rw[lX hs];refine method1_meetsIn Jl M3<|bB X O I1 F1 k λs2 Z2 H2 p u P2 S F2 r2 k=>?_;cases q:cU H2 x with|none=>rw[q]at k;exact k.elim|some f=>
  rw[q]at k;refine gB (ik S (P2.rep I1 o) q) λi ds l e g re b _=>?_;injection e with e;subst e;refine⟨⟨_,g,rfl⟩,PySem.F.args_dict_get_2 _ _,_,rU Q p [] .none<|.inl ⟨rfl,rfl⟩,O.il,Z2,f,u,ds,l,⟨g,re,b,k.1,r2,af⟩,λE t=>?_,λv M hy rv t=>?_⟩;.have:=k.2;rw[E]at this;exact Res.up (P.trans P2)<|eT S .none this
  .have:=k.2;rw[hy]at this;exact Res.up (P.trans P2)<|eT S rv this
theorem x9(hb:eJ D=Do)(hs:a5 ke=Do)(de:a5 J=Do)(V:(a.endLine==ar.line)=Do)(ho:aK n sc G D Wo)(X:aK n sc G ke w)(hd:aK n sc G J Wd):aK n sc G (.Call (.Attribute D "get" a) [ke,J] [] ar) λm H C=>Wo m H λov H=>(∃f,cU H ov=j' f)/\w m H λkv H=>Wd m H λj H=>av (cU H ov) λf=>bD f kv/\C ((dget f kv).getD j) H:=by intro aa N r Z H m C O I F h;refine gi hb (by simp[hs,de]) (by simp) V<|bB ho O I F h λae as aq d x P I1 F1 o k pl=>?_;refine aN k λs k=>ax s λaj h0=>gB (ik I1 o h0) λQ z n0 s g0 _ _ af=>?_;subst s;refine jl g0 Jl Nr ?_ pl;rw[rT hs de];refine method2_meetsIn Jl M3<|bB X O I1 F1 k λs2 Z2 H2 p u P2 S F2 r2 k=>bB hd O S F2 k λs3 Z3 H3 am y3 P3 I3 R Y k=>?_;cases q:cU H3 x with|none=>rw[q]at k;exact k.elim|some f=>
  rw[q]at k;refine gB (ik I3 ((P2.trans P3).rep I1 o) q) λi ds l e g re b _=>?_;injection e with e;subst e;refine⟨⟨_,g,rfl⟩,PySem.F.args_dict_get_3 _ _ _,_,rU Q p [am] am<|.inr rfl,O.il,Z3,f,u,ds,l,⟨g,re,b,k.1,P3.rep S r2,af⟩,λE t=>?_,λv M hy rv t=>?_⟩;.have:=k.2;rw[E]at this;exact Res.up ((P.trans P2).trans P3)<|eT I3 Y this
  .have:=k.2;rw[hy]at this;exact Res.up ((P.trans P2).trans P3)<|eT I3 rv this
theorem x_(X:cZ f)(hf:bD f x)(hn:dget f x=kf):cZ<|f++[(x,u)]:=by exact ji hn▸nR X hf
set_option tactic.hygienic true in
theorem x'(hb:eJ D=Do)(hs:a5 ke=Do)(de:a5 J=Do)(V:(a.endLine==ar.line)=Do)(ho:aK n sc G D Wo)(X:aK n sc G ke w)(hd:aK n sc G J Wd):aK n sc G (.Call (.Attribute D "setdefault" a) [ke,J] [] ar) λm H C=>Wo m H λov H=>av (cF ov) λd=>(∃f,H d=j' (.dict f))/\w m H λkv H=>Wd m H λj H=>av (H d) λob=>match ob with|.dict f=>bD f kv/\f.length<=aR/\C ((dget f kv).getD j) (H.set d<|.dict<|if(dget f kv).isSome then f else f++[(kv,j)])|_=>False:=by
 intro aa N r Z H m C O I F h;refine gi hb (by simp[hs,de]) (by simp) V<|bB ho O I F h λae as aq d x P I1 F1 o k pl=>?_;refine g5 o k λQ k=>aN k λs k=>ax s λaj h0=>bn (I1.obj Q _ h0) λz n0 g0 _=>jl g0 Ld PySem.F.type_dict_setdefault ?_ pl;rw[rT hs de];refine method2_meetsIn Ld PySem.F.entry_dict_setdefault<|bB X O I1 F1 k λs2 Z2 H2 p u P2 S F2 r2 k=>bB hd O S F2 k λs3 Z3 H3 am y3 P3 I3 R Y k=>?_;refine qS k λf A k=>aZ k λhf ac q=>hw (I3.obj Q _ A) λds l g re b af=>?_;have K:H3 Q≠.none:=by rw[A];simp
 refine⟨⟨_,g,rfl⟩,PySem.F.args_dict_setdefault_3 _ _ _,_,x6 Q p am,O.il,Z3,f,u,ds,l,y3,⟨g,re,b,hf,P3.rep S r2,af⟩,Y,ac,λv M hy rv t=>?_,λE t h' y ad g' r' o'=>?_⟩
 .rw[hy]at q;simp only[OW,Option.isSome_some,if_true]at q;have e:H3.set Q (.dict f)=H3:=by funext p;unfold Hp.set;split;rename_i e;rw[e,A];rfl
  rw[e]at q;exact Res.up ((P.trans P2).trans P3)<|eT I3 rv q
 .rw[E]at q;dsimp only[OX,Oe,Fh,if_false]at q;refine aN (kh (po:=.dict<|f++[(u,y3)]) (aO:=t) I3 ⟨_,A,by simp,by simp⟩ (λp ob hb e=>(o' p hb).trans e) ⟨y,ad,g',RepE.bw I3 K r' o',x_ b hf E,af⟩ ⟨_,g'⟩<|by simp) λL I4=>Res.up ((P.trans P2).trans P3) ⟨Z3,_,y3,L,I4,L.rep I3 Y,q⟩
theorem ya(hb:eJ D=Do)(hs:a5 ke=Do)(V:(a.endLine==ar.line)=Do)(ho:aK n sc G D Wo)(X:aK n sc G ke w):aK n sc G (.Call (.Attribute D "pop" a) [ke] [] ar) λm H C=>Wo m H λov H=>av (cF ov) λd=>(∃f,H d=j' (.dict f))/\w m H λkv H=>av (H d) λob=>match ob with|.dict f=>g4 kv/\bD f kv/\f.length<=aR/\av (dget f kv) λv=>C v<|H.set d<|.dict<|cc f kv|_=>False:=by
 intro aa N r Z H m C O I F h;refine gi hb (by simp[hs]) (by simp) V<|bB ho O I F h λae as aq d x P I1 F1 o k pl=>?_;refine g5 o k λQ k=>aN k λs k=>ax s λaj h0=>bn (I1.obj Q _ h0) λz n0 g0 _=>jl g0 Nt PySem.F.type_dict_pop ?_ pl;rw[lX hs];refine method1_meetsIn Nt PySem.F.entry_dict_pop<|bB X O I1 F1 k λs2 Z2 H2 p u P2 S F2 r2 k=>?_;refine qS k λf A k=>bM k λE hf ac q=>hw (S.obj Q _ A) λds l g re b af=>?_;have K:H2 Q≠.none:=by rw[A];simp
 cases hv:dget f u with|none=>rw[hv]at q;exact q.elim|some v=>
  rw[hv]at q;have j:(keyPart p).isSome=true:=by refine ax E λi s=>?_;clear E;subst s;refine r2.d3 λ_=>?_;rfl
  refine⟨⟨_,g,rfl⟩,PySem.F.args_dict_pop_2 _ _,_,x7 Q p j,O.il,Z2,f,u,ds,l,v,⟨g,re,b,hf,r2,af⟩,ac,hv,λva rv t h' y ad g' r' o'=>?_⟩;refine aN (kh (po:=.dict<|cc f u) (aO:=t) S ⟨_,A,by simp,by simp⟩ (λp ob hb e=>(o' p hb).trans e) ⟨y,ad,g',RepE.bw S K r' o',wI b,af⟩ ⟨_,g'⟩<|by simp) λL I4=>Res.up (P.trans P2) ⟨Z2,_,v,L,I4,L.rep S rv,q⟩
theorem yb:(E3 128).all λc=>OQ ⟨[c].toArray⟩==j4 c=true:=by kernel_rfl
theorem yc(c:Nat)(hc:c<128):OQ ⟨[c].toArray⟩=j4 c:=by exact eq_of_beq<|FE.mp yb c<|F3.mpr hc
set_option tactic.hygienic true in
theorem yd(hb:eJ D=Do)(V:(a.endLine==ar.line)=Do)(ho:aK n sc G D Wo):aK n sc G (.Call (.Attribute D "isspace" a) [] [] ar) λm H C=>Wo m H λov H=>∃c,ov=.str [c]/\c<128/\C (.bool<|j4 c) H:=by
 intro aa N r Z H m C O I F h;refine gi hb rfl (by simp) V<|bB ho O I F h λae as aq d x P I1 F1 o k pl=>?_;refine a4 k λc s hc q=>?_;clear k;subst s;refine o.dc λ_=>?_;rename_i t;have fin:Res n (RV n) r Z H C (.bool<|OQ ⟨[c].toArray⟩) ae:=by exact yc c hc▸Res.up P (cQ I1 (.bool _) q)
 have y:MethodOnS n.prog n.w N aQ "isspace" (.str ⟨[c].toArray⟩ t) ar [] (Res n (RV n) r Z H C) ae:=SB.isspace fin;unfold MethodOnS at y;refine nc y λT id b i p hT hd e=>?_;exact(@L1 (EE n.prog n.w) N aQ ae (.str ⟨[c].toArray⟩ t) T "isspace" id pl (λj s2=>Ey (EE n.prog n.w) N (Mm ar j.1 j.2 (HH ar<|GQ [] aa) []) (Res n (RV n) r Z H C) aQ s2) hT b i p hd) e
end
section
variable{f:Nat->F6->(EZ->Prop)->Prop}
set_option tactic.hygienic true in
theorem It2.ip(I w:EZ)(Y:List EI)(l:Nat)(z:List V)(K:w≠I):It2 n (.Name x px) I [I] (λd=>d=I\/d=w) z λi h Z H=>h.IsListIter I w i/\h.get? w=j' (FF "list" Y.toArray l)/\Reps n.w h Z Y z/\∀d,d=I\/d=w->¬Z d/\H d=kf where
 self:=λh q=>Nc h.1 q
 keep:=λ{r ae Z as H aq ex i}a hI j E hz=>by
  refine bM a λJ b h4 hp=>aA J λD ho o=>⟨⟨D,j.keep _ _ ho (hp I<|.inl rfl).2<|E I<|.inl rfl,o⟩,j.keep _ _ b (hp w<|.inr rfl).2<|E w<|.inr rfl,j.du hI hz h4,λd ha=>?_⟩;have alive:∃D,r.heap.get? d=j' D:=by
   clear K a E J hp;clear o;rcases ha with rfl|rfl;.exact⟨D,ho⟩
   .exact⟨_,b⟩
  refine ax alive λo' ab=>⟨λM=>?_,?_⟩
  .rcases j.bz d M with q|q|q;.exact(hp d ha).1 q
   .exact q (hp d ha).2
   .rw[q]at ab;exact aP ab
  .cases e1:aq d with|none=>rfl|some x=>
    refine(j.bl d<|by rw[e1];simp).elim (λq=>?_) λq=>?_;.exact aJ (hp d ha).2 q
    .rw[q]at ab;exact aP ab
 next:=λ{N r Z H i}hh I' a hi=>by
  refine bM a λJ b h4 hp=>?_;have s:∀d∈[I],¬Z d/\H d=.none:=λd ha=>hp d<|.inl<|ta.mp ha;have hl:r.heap.IsList w Y.toArray:=⟨_,b,rfl,l,rfl⟩
  cases E:z[i]? with|none=>
   have:Y.toArray[i]?=Option.none:=by have:=h4.length;rw[Ga]at E;simp;exact aT 0x77b4102820d820 rfl this E
   refine Ks hh J hl this λh' he=>⟨rfl,eH<|cf he,eI I' s<|cf he⟩|some u=>refine aA (h4.get E) λv hv o=>Ka J hl (x:=v) (by simpa using hv) λh' m hs=>⟨v,rfl,?_⟩;refine tk ⟨Z,eH<|cf hs.extBut,eI I' s<|cf hs.extBut,⟨m,(hs.2 w K).trans b,h4.mono (λp M=>M) λd D M e=>(hs.2 d λq=>(hp I<|.inl rfl).1<|q▸M).trans e,hp⟩,o.mono (λp M=>M) λd D M e=>(hs.2 d λq=>(hp I<|.inl rfl).1<|q▸M).trans e⟩
 ok:=λ{h Z H i}⟨J,b,h4,hp⟩d ha=>⟨(hp d ha).1,(hp d ha).2,by
  clear K hp;rcases ha with rfl|rfl;.refine aA J λD ho p=>?_;exact⟨D,ho⟩
  .exact⟨_,b⟩⟩
 sub:=λd ha=>.inl<|ta.mp ha
end
def DX(A:F7)(Q:EZ)(ds:List FX)(ao:List<|V×V)(k:Nat)(h:F6)(Z:EZ->Prop):Prop:=h.get? Q=j' (bb ds k)/\RepE A h Z ds ao/\cZ ao
theorem DX.keeps:Keeps n Q<|DX n.w Q ds ao k:=⟨λx=>⟨_,x.1⟩,λx I j hd hz hh=>⟨j.keep _ _ x.1 hh hd,x.2.1.mono j.b0 λd D M e=>j.keep d D e (I.zh M)<|hz d M,x.2.2⟩⟩
abbrev iv(WG:V->aL->Hp->(aL->Hp->Prop)->Prop)(WK b:WV)(m:aL):V->Hp->(V->V->Hp->Prop)->Prop:=λx H kk=>WG x m H λl' H=>WK l' H λkv H=>b l' H λn H=>kk kv n H
inductive DI(p:LP)(W:V->Hp->(V->V->Hp->Prop)->Prop)(Q:List (V×V)->Hp->Prop)(n:Nat)(s:Shared):Prop|mk(i:Nat)(Z:Addr->Prop)(H:Hp)(ds:List DictEntry)(acc:List<|V×V)(k:Nat):LS p (DX p.C.w p.D ds acc k) s Z H->p.G i s.heap Z H->i<=p.xs.length->n=p.xs.length-i->ei W (p.xs.drop i) acc H Q->DI p W Q n s
section
variable{G i:Nat}
theorem LS.ir(c:LC j){ds:List FX}{ao:List<|V×V}{k:Nat}(af:LS j (DX j.C.w j.D ds ao k) r Z H)(a:j.G i r.heap Z H)(O:bQ G N){kv n:EI}{x u:V}(hf:bD ao x)(rk:Rep j.C.w r.heap Z kv x)(rv:Rep j.C.w r.heap Z n u)(ac:ao.length<=aR){K:EQ->Prop}(q:∀s' y k',LS j (DX j.C.w j.D y (bC ao x u) k') s' Z H->j.G i s'.heap Z H->K s'):Ey (EE j.C.prog j.C.w) N (Oz j.D kv n) (λp=>K) aQ r:=ru (by have:=O.u;exact aE 0x3b50ba890542e19140 rfl this) af.x.1 af.x.2.1 af.x.2.2 hf rk rv ac λt h' y ad hD b hs=>have aj:=af.put c a (t:=t) (DX.keeps (ds:=y) (ao:=bC ao x u) (k:=ad)) hs ⟨hD,b.mono (λp M=>M) λd D M e=>(hs d λA=>af.z<|A▸M).trans e,nR af.x.2.2 hf⟩
  q _ y ad aj.1 aj.2
set_option tactic.hygienic true in
theorem ye(c:LC j)(hG:cR j.C LA j.sc G j.aq WG)(hK:aK j.C j.sc G ke WK)(hE:aK j.C j.sc G ve b)(O:bQ G N)(S:∀{x}{H}{C},WG x j.l H C->WG x j.l H λl' H'=>j.rel l'/\C l' H'){k0:Nat}(af:LS j (DX j.C.w j.D z [] k0) r Z H)(a:j.G 0 r.heap Z H)(hw:ei (iv WG WK b j.l) j.xs [] H C)(fin:∀s' Z' H' ds ys k,LS j (DX j.C.w j.D ds ys k) s' Z' H'->C ys H'->R (.ok .next) s'):Hl (EE j.C.prog j.C.w) N (.compLoop (.DictComp ke ve [⟨j.aq,iter,[],0⟩] scope ar) 0 (.ref j.I) (.ref j.D) j.env) R r:=by
 refine wv (DI j (iv WG WK b j.l) C) (λl r t=>?_) j.xs.length ⟨0,Z,H,z,[],k0,af,a,E8 _,rfl,hw⟩;obtain⟨i,Z,H,ds,ao,k,af,a,hi,rfl,hw⟩:=t;refine af.turn c a O hi hG S (W:=λx l' H=>WK l' H λkv H=>b l' H λn H=>bD ao kv/\ao.length<=aR/\ei (iv WG WK b j.l) (j.xs.drop<|i+1) (bC ao kv n) H C) (λaa ae af=>?_) (λx E=>?_) λx s3 Z3 H3 l3 E af a w q=>?_;.rw[G5 aa]at hw;exact fin ae Z H ds ao k af hw
 .rw[lK E]at hw;exact hw
 .have ad:i<j.xs.length:=(EN.mp E).1;refine af.step c a w (hK O af.i w q) λkv s4 Z4 H4 x d e a w rk q=>e.step c a w (hE O e.i w q) λn X Z5 H5 u P af a w rv q=>af.ir c a O q.1 (P.rep e.i rk) rv q.2.1 λs' y k' af a=>⟨_,Jz ad<|Fq i,i+1,Z5,H5,y,_,k',af,a,ad,rfl,q.2.2⟩
end
section
variable{vars:List Nat}
theorem yf(P:Post r Z H s' Z' H')(I:Inv n s'.heap Z' H')(hd:r.heap.get? af=kf)(hz:¬Z' af)(hh:H' af=kf)(hs:∀p,p≠af->h'.get? p=s'.heap.get? p):Post r Z H {s' with heap:=h'} Z' H'/\Inv n h' Z' H'/\∀{v}{x},Rep n.w s'.heap Z' v x->Rep n.w h' Z' v x:=by
 have a:∀d,Z' d->d≠af:=λd M e=>hz<|e▸M;have X:∀p D,p≠af->s'.heap.get? p=j' D->h'.get? p=j' D:=λp D hb e=>(hs p hb).trans e;refine⟨⟨P.gens,P.os,λd D e hn=>X d D (λq=>by rw[q,hd]at e;exact aP e)<|P.keep d D e hn,P.b0,P.bz,P.bl,λd D e=>?_⟩,I.ext2 (λc M=>M) (λc M=>.inl M) λp D q e=>X p D (λA=>by
  refine q.elim (λq=>?_) λq=>?_;.exact a p q A
  .exact q<|A▸hh) e,λo=>o.mono (λc M=>M) λd D M e=>X d D (a d M) e⟩;refine ax (P.alive d D e) λo' e'=>⟨o',X d o' (λq=>by rw[q,hd]at e;exact aP e) e'⟩
theorem CompOk.names(K:CompOk sc scope vars):∀x∈scope.names,x.2=.local->scope.names.lookup x.1=j' .local:=by
 intro x E hl;have:∀(ns:List<|EJ×Fv),(ns.map (·.1)).Nodup->x∈ns->ns.lookup x.1=j' x.2:=by intro ns;induction ns with|nil=>intro _ h;exact(Ez h).elim|cons u ns ih=>
   intro hn hm;obtain⟨a,b⟩:=u;rw[Gq,FH]at hn;rw[Fw];rcases EG.mp hm with rfl|hm;.simp
   .have:(x.1==a)=false:=by cases e:x.1==a with|false=>rfl|true=>exact aJ (beq_iff_eq.mp e▸Fx (f:=(·.1)) hm) hn.1
    exact this▸ih hn.2 hm
 rw[this _ K.nodup E,hl]
structure DEnd(C:a_)(s:Shared)(Z:Addr->Prop)(H:Hp)(D L:Addr)(s':Shared)(Z':Addr->Prop)(H':Hp)(ds:List DictEntry)(k:Nat)(ys:List<|V×V):Prop where
 P:Post s Z H s' Z' H'
 I:Inv C s'.heap Z' H'
 g:s'.heap.get? D=some (bb ds k)r:RepE C.w s'.heap Z' ds ys
 ok:cZ ys
 z:¬Z' D
 h:H' D=.none
 dD:s.heap.get? D=.none
 sys:(D==sysModules)=false
 ne:D≠L
 ns:∃m,s'.heap.Ns L m
 lz:¬Z' L
 lh:H' L=.none
 dL:s.heap.get? L=.none
set_option tactic.hygienic true in
theorem n5(K:CompOk sc scope vars)(hG:cR n LA (bL sc scope.names) G aj WG)(hK:aK n (bL sc scope.names) G ke WK)(hE:aK n (bL sc scope.names) G ve b){R:EI->EZ->Nj->EQ->Prop}(O:bQ G N)(I0:Inv n r.heap Z H)(F0:Fm n r.heap Z H aa sc m)(hI:Ey (EE n.prog n.w) N (Hb iter aa) (λv ae=>Ey (EE n.prog n.w) N (Ju v) (ResI2 n aj aa r Z H λz H=>ei (iv WG WK b<|m.bh vars) z [] H C) aQ ae) aQ r)(fin:∀Q af s' Z' H' ds k ys,DEnd n r Z H Q af s' Z' H' ds k ys->C ys H'->R (.ref Q) af (.ok .next) s'):Ey (EE n.prog n.w) N (Hb iter aa) (λx ae=>Ey (EE n.prog n.w) N (Ju x) (λit s2=>Ey (EE n.prog n.w) N Nm (λao s3=>Ey (EE n.prog n.w) N (newFunctionEnv scope aa.globals (ek aa scope.names []) [] aa.qual kf .none<|j' aa) (λo s4=>Hl (EE n.prog n.w) N (.compStart (.DictComp ke ve [⟨aj,iter,[],0⟩] scope ar) 0 it ao {o with scope:=Nk scope aa}) (R ao o.locals) s4) aQ s3) aQ s2) aQ ae) aQ r:=by
 refine EK hI (λv ae J=>EK J (λit s2 L=>?_) λd d x=>x) λd d x=>x;obtain⟨Z2,H2,z,I,A,i,ab,rfl,P2,S,T,a,hp,ho,hq⟩:=L;refine Fu<|KH K.dy (by intro u hy;exact(Ez hy).elim) (λh₁ ad j=>?_) K.kind;have p:=nM K I0 F0 P2 S T a hp ho (D:=bb [] 0) rfl (an:=DX n.w s2.heap.objs.size [] [] 0) DX.keeps (λh e=>⟨e,.nil,.inl λd h=>(Ez h).elim,.nil⟩) (t:=s2.toks+([]:List<|EJ×EI).length) ad λp x e=>(j.2 p<|EP<|E_ e).trans<|EV _ e;have l:=ye (R:=R (.ref s2.heap.objs.size) (s2.heap.push<|bb [] 0).objs.size) p.c (iter:=iter) (scope:=scope) (ar:=ar) hG hK hE O rn p.st p.j hq λs' Z' H' ds ys k af q=>by refine aA af.f.ns λy hm d=>fin _ _ s' Z' H' ds k ys ⟨af.b,af.i,af.x.1,af.x.2.1,af.x.2.2,af.z,af.h,p.dD,rE n.sys I0 p.dD,p.ne,⟨y,hm⟩,af.f.lz,af.f.lh,p.dL⟩ q
 exact codeAny_compStart_dict l<|hH<|T.self p.j l
end
section
variable{n:a_}{r ae s2:EQ}{Z as Z2:EZ->Prop}{H aq H2:Hp}{aa:IC}{sc:List<|EJ×Fv}{m:aL}{scope:L_}{vars:List Nat}
noncomputable def kq(e:Ff)(aa:IC)(V:Option<|EI->J2 Unit):J2 Value:=match e with|.ListComp _ gens scope ar=>IY e scope aa (firstIterPos gens ar) (OD []) (firstAsync gens) (firstIter gens aa) V|.DictComp _ _ gens scope ar=>IY e scope aa (firstIterPos gens ar) Nm (firstAsync gens) (firstIter gens aa) V|_=>pure .none
def hL(n:a_)(sc:List<|EJ×Fv)(G:Nat)(e:Ff)(W:WV):Prop:=∀{aa}{N}{r}{Z}{H}{m}{C}{V}{Qv},bQ G N->Inv n r.heap Z H->Fm n r.heap Z H aa sc m->W m H C->jg n r Z H C (NM (EE n.prog n.w) N aQ V Qv)->Ey (EE n.prog n.w) N (kq e aa V) Qv aQ r
theorem yg(K:CompOk sc scope vars)(j:∀aa x,Gw iter aa x=pure x)(hI:cG n sc G aj iter d_)(hG:cR n LA (bL sc scope.names) G aj WG)(M:je n (bL sc scope.names) G f y)(hE:aK n (bL sc scope.names) G s b):hL n sc G (.ListComp s [⟨aj,iter,f,0⟩] scope ar) λm H C=>d_ m H λz H=>z.length<=aR/\cV (λx H kY L=>WG x (m.bh vars) H λl' H=>y l' H λp H=>if p then b l' H kY else L H) z [] H λys H=>C (.lst ys) H:=by intro aa N r Z H m C V Qv O I F h fin;show Ey _ _ (IY (.ListComp s [⟨aj,iter,f,0⟩] scope ar) scope aa iter.pos (OD []) EF (Hb iter aa) V) _ _ _;refine HU (use:=V) (g:=⟨aj,iter,f,0⟩) (gs:=[]) rfl (j aa) (kc<|K.az F) K.kind K.names<|wz K hI hG M hE O I F h fin
theorem yh(K:CompOk sc scope vars)(j:∀aa x,Gw iter aa x=pure x)(hI:cG n sc G aj iter d_)(hG:cR n LA (bL sc scope.names) G aj WG)(hK:aK n (bL sc scope.names) G ke WK)(hE:aK n (bL sc scope.names) G ve b):hL n sc G (.DictComp ke ve [⟨aj,iter,[],0⟩] scope ar) λm H C=>d_ m H λz H=>z.length<=aR/\ei (iv WG WK b<|m.bh vars) z [] H λf H=>C (.br f) H:=by
 intro aa N r Z H m C V Qv O I F h fin;show Ey _ _ (IY (.DictComp ke ve [⟨aj,iter,[],0⟩] scope ar) scope aa iter.pos Nm EF (Hb iter aa) V) _ _ _;refine HU (use:=V) (g:=⟨aj,iter,[],0⟩) (gs:=[]) rfl (j aa) (kc<|K.az F) K.kind K.names<|n5 K hG hK hE (C:=λf H=>C (.br f) H) (R:=NM (EE n.prog n.w) N aQ V Qv) O I F (EK (hI O I F h) (λv ae J=>EK J (λit s2 o=>?_) λp p x=>x) λp p x=>x) ?_;.obtain⟨Z2,H2,z,I',A,i,ab,e,P,S,T,a,hp,ho,hs,q⟩:=o.two F;exact⟨Z2,H2,z,I',A,i,ab,e,P,S,T,a,hp,ho,q⟩
 .intro Q af s' Z' H' ds k ys e q;exact fin (.ref Q) af s' (λd=>Z' d\/d=Q) H' (.br ys) (e.P.freeze e.dD) (e.I.freeze e.h ⟨_,e.g⟩) (.br Q ds k ys (.inr rfl) e.g (e.r.mono (λp M=>.inl M) λp p p e=>e) ⟨e.ok,e.sys⟩) e.ns (λM=>M.elim e.lz λq=>e.ne q.symm) e.lh e.dL q
theorem n6(P:Post r Z H s' Z' H')(I:Inv n s'.heap Z' H')(hD:r.heap.get? Q=kf\/H Q≠kf)(hz:¬Z' Q)(hh:H' Q=kf)(ho:gH n s'.heap Z' (H'.set Q po) Q po)(u:∃D,s'.heap.get? Q=j' D)(hp:∀c dx fs,po≠.inst c dx fs):Post r Z H s' Z' (H'.set Q po)/\Inv n s'.heap Z' (H'.set Q po):=by
 refine⟨⟨P.gens,P.os,P.keep,P.b0,P.bz,λd M=>?_,P.alive⟩,⟨I.base,I.d6,I.zb,λd h M=>?_,λd D e=>?_⟩⟩
 .by_cases e:d=Q;.clear hz hh ho u M;subst e;exact hD.symm
  .rw[Hp.af _ _ e]at M;exact P.bl d M
 .by_cases e:d=Q;.clear hD hh ho u h;subst e;exact hz M
  .rw[Hp.af _ _ e]at h;exact I.hz d h M
 .by_cases q:d=Q;.clear hD hz hh u;subst q;rw[Hp.ao]at e;obtain rfl:=EA e;exact ho
  .rw[Hp.af _ _ q]at e;have:=I.obj d D e;induction D with|list=>exact this|dict=>exact this|b9=>exact this|inst c dx fs=>
    refine hu this λJ L b h4 h5 h6=>⟨J,?_,b,h4,h5,λp c' a hb=>?_⟩;.rw[Hp.af _ _ λe=>?_];exact L;rw[e,hh]at L;exact aP L
    .by_cases q':p=Q;.clear hD hz hh ho u q;subst q';rw[Hp.ao]at hb;exact aJ (EA hb)<|hp _ _ _
     .rw[Hp.af _ _ q']at hb;exact h6 p c' a hb
theorem yi(K:CompOk sc scope vars)(j:∀aa x,Gw iter aa x=pure x)(hI:cG n sc G aj iter d_)(hG:cR n LA (bL sc scope.names) G aj WG)(hK:aK n (bL sc scope.names) G ke WK)(hE:aK n (bL sc scope.names) G ve b):hL n sc G (.DictComp ke ve [⟨aj,iter,[],0⟩] scope ar) λm H C=>d_ m H λz H=>z.length<=aR/\ei (iv WG WK b<|m.bh vars) z [] H λf H=>∀d,H d=kf->C (.ref d) (H.set d<|.dict f):=by
 intro aa N r Z H m C V Qv O I F h fin;show Ey _ _ (IY (.DictComp ke ve [⟨aj,iter,[],0⟩] scope ar) scope aa iter.pos Nm EF (Hb iter aa) V) _ _ _;refine HU (use:=V) (g:=⟨aj,iter,[],0⟩) (gs:=[]) rfl (j aa) (kc<|K.az F) K.kind K.names<|n5 K hG hK hE (C:=λf H=>∀d,H d=kf->C (.ref d) (H.set d<|.dict f)) (R:=NM (EE n.prog n.w) N aQ V Qv) O I F (EK (hI O I F h) (λv ae J=>EK J (λit s2 o=>?_) λp p x=>x) λp p x=>x) ?_;.obtain⟨Z2,H2,z,I',A,i,ab,e,P,S,T,a,hp,ho,hs,q⟩:=o.two F;exact⟨Z2,H2,z,I',A,i,ab,e,P,S,T,a,hp,ho,q⟩
 .intro Q af s' Z' H' ds k ys e q;refine aN (n6 (po:=.dict ys) e.P e.I (.inl e.dD) e.z e.h ⟨ds,k,e.g,e.r,e.ok,e.sys⟩ ⟨_,e.g⟩<|by simp) λP3 I3=>fin (.ref Q) af s' Z' _ (.ref Q) P3 I3 (.ref Q) e.ns e.lz ((Hp.af _ _<|HF e.ne).trans e.lh) e.dL<|q Q e.h
theorem Hp.bp(H:Hp)(d:Nat):(H.del d) d=.none:=by simp[Hp.del]
theorem Hp.c8(H:Hp)(h:p≠d):(H.del d) p=H p:=by simp[Hp.del,h]
theorem Inv.del(I:Inv n h Z H)(A:H d=j' D)(J:D≠.b9)(L:∀c dx fs,D≠.inst c dx fs):Inv n h Z (H.del d)where
 base:=I.base
 d6:=I.d6
 zb:=I.zb
 hz:=λp hb M=>by
  by_cases e:p=d;.clear A;subst e;rw[Hp.bp]at hb;exact hb rfl
  .rw[Hp.c8 _ e]at hb;exact I.hz p hb M
 obj:=λp ob e=>by
  by_cases q:p=d;.clear A;subst q;rw[Hp.bp]at e;exact aP e
  .rw[Hp.c8 _ q]at e;have:=I.obj p ob e;induction ob with|list=>exact this|dict=>exact this|b9=>exact this|inst c dx fs=>
    refine hu this λg1 g2 g3 ad K O=>⟨g1,?_,g3,ad,K,λb' c' a hb=>?_⟩;.rw[Hp.c8 _ λe=>?_];exact g2;rw[e,A]at g2;exact J<|EA g2
    .by_cases q':b'=d;.clear A q;subst q';rw[Hp.bp]at hb;exact aP hb
     .rw[Hp.c8 _ q']at hb;exact O b' c' a hb
theorem Post.del:Post r Z H r Z<|H.del d:=⟨rfl,rfl,λG G e G=>e,λG M=>M,λG M=>.inl M,λp hb=>by
 by_cases e:p=d;.subst e;rw[Hp.bp]at hb;exact aJ rfl hb
 .rw[Hp.c8 _ e]at hb;exact .inl hb,λG D e=>⟨D,e⟩⟩
theorem yj(hi:sc.lookup (aI i)=j' .local\/sc.lookup (aI i)=j' .cell)(K:CompOk sc scope vars)(hG:cR n LA (bL sc scope.names) G (.Name x px) WG)(hK:aK n (bL sc scope.names) G ke WK)(hE:aK n (bL sc scope.names) G ve b):hL n sc G (.DictComp ke ve [⟨.Name x px,.Name (aI i) a,[],0⟩] scope ar) λm H C=>av (m i) λv=>av (cF v) λd=>av (H d) λob=>match ob with|.list z=>ei (iv WG WK b<|m.bh vars) z [] (H.del d) λf H'=>∀G,H' G=kf->G≠d->C (.ref G) ((H'.set d<|.list z).set G<|.dict f)|_=>False:=by
 intro aa N r Z H m C V Qv O I F h fin;refine dK h λv hl h=>dK h λd ha h=>?_;obtain rfl:=qT ha;refine lD h λz A h=>bn (I.obj d _ A) λY l g o=>?_;have j:¬Z d:=I.hz d (by rw[A];simp);have I1:=I.del A (by simp) (by simp);have F1:Fm n r.heap Z (H.del d) aa sc m:=F.post I Post.del;have E:aK n sc G (.Name (aI i) a) λm H C=>av (m i) λv=>C v H:=q0 hi;show Ey _ _ (IY (.DictComp ke ve [⟨.Name x px,.Name (aI i) a,[],0⟩] scope ar) scope aa a Nm EF (Hb (.Name (aI i) a) aa) V) _ _ _;refine HU (use:=V) (g:=⟨.Name x px,.Name (aI i) a,[],0⟩) (gs:=[]) rfl (λc=>rfl) (kc<|K.az F) K.kind K.names<|n5 K hG hK hE (C:=λf H'=>∀G,H' G=kf->G≠d->C (.ref G) ((H'.set d<|.list z).set G<|.dict f)) (R:=NM (EE n.prog n.w) N aQ V Qv) O I1 F1 ?_ ?_
 .refine bB (K:=λv H'=>v=.ref d/\H'=H.del d) E O I1 F1 (by show av (m i) _;exact hl▸⟨rfl,rfl⟩) λae as aq va x P1 S J r1 k=>?_;refine aN k λs z2=>?_;clear k;subst s;clear J;subst z2;refine r1.fb ?_;have g1:=P1.keep d _ g<|Hp.bp H d;have ac:Reps n.w ae.heap as Y z:=P1.du I1 o;have ad:=(g6 (P1.px (ex:=λc=>False)) ⟨_,g⟩ j<|Hp.bp H d).1;refine J5 ⟨_,g1,rfl,l,rfl⟩ ?_;have X:=λp D e=>bR (h:=ae.heap) (D:={cls:=.type "list_iterator",data:=.fields #[.ref d,.int 0 0]}) p D e;have P2:Post ae as (H.del d) {ae with heap:=ae.heap.push {cls:=.type "list_iterator",data:=.fields #[.ref d,.int 0 0]}} as<|H.del d:=fP (aO:=ae.toks) X;have aj:d≠ae.heap.objs.size:=EP<|E_ g1;have u:r.heap.get? ae.heap.objs.size=.none:=by cases e:r.heap.get? ae.heap.objs.size with|none=>rfl|some D=>refine ax (P1.alive _ D e) λo' ab=>?_;exact aJ (E_ ab)<|GN _
  refine⟨as,H.del d,z,ae.heap.objs.size,[ae.heap.objs.size],_,_,rfl,P1.trans P2,S.ext X,It2.ip ae.heap.objs.size d Y l z aj,⟨⟨_,ES _ rfl,rfl,rfl⟩,X _ _ g1,ac.mono (λc M=>M) λp D c e=>X p D e,?_⟩,?_,?_,h⟩
  .intro p s;refine s.elim (λs=>?_) λs=>?_;.replace s:=s.symm;subst s;exact⟨S.dj<|e0 ae,S.bu<|e0 ae⟩
   .replace s:=s.symm;subst s;exact⟨ad,Hp.bp H _⟩
  .intro p hb;exact ta.mp hb▸u
  .intro p s w;refine s.elim (λs=>?_) λs=>?_;.replace s:=s.symm;subst s;refine aZ (F.fa w) λc c s=>ax s λD ho=>?_;rw[u]at ho;exact aP ho
   .replace s:=s.symm;subst s;refine aZ (F.fa w) λc hn c=>?_;rw[A]at hn;exact aP hn.symm
 .intro Q af s' Z' H' ds k ys e q;have g':s'.heap.get? d=j' (FF "list" Y.toArray l):=e.P.keep d _ g<|Hp.bp H d;have st:=g6 (e.P.px (ex:=λc=>False)) ⟨_,g⟩ j<|Hp.bp H d;refine aN (n6 (po:=.list z) (Post.del.trans e.P) e.I (.inr<|by rw[A];simp) st.1 st.2 ⟨Y,l,g',e.P.du I1 o⟩ ⟨_,g'⟩<|by simp) λP3 I3=>?_;have y:Q≠d:=λq=>by have:=e.dD;rw[q,g]at this;exact aP this.symm
  have al:af≠d:=λq=>by have:=e.dL;rw[q,g]at this;exact aP this.symm
  refine aN (n6 (po:=.dict ys) P3 I3 (.inl e.dD) e.z ((Hp.af _ _ y).trans e.h) ⟨ds,k,e.g,e.r,e.ok,e.sys⟩ ⟨_,e.g⟩<|by simp) λL I4=>fin (.ref Q) af s' Z' _ (.ref Q) L I4 (.ref Q) e.ns e.lz ((Hp.af _ _<|HF e.ne).trans<|(Hp.af _ _ al).trans e.lh) e.dL<|q Q e.h y
theorem yk(he:∀aa,Hb e aa=kq e aa kf)(hc:hL n sc G e W):aK n sc G e W:=by intro aa N r Z H m C O I F h;rw[he];refine hc O I F h λao af s' Z' H' x P I' o hm hz hh hd q=>ax hm λy hm=>bm y hm λh' hs=>?_;refine aZ (yf P I' hd hz hh hs.2) λP2 S R=>⟨Z',H',x,P2,S,R o,q⟩
end
section
variable{px:J3}
theorem yl{P:V->Prop}{k:V}(h:h5 k=Do)(c:∀i,P<|.int i):P k:=by induction k using Mine.Internal.V.casesOn with|int i=>exact c i|_=>exact aJ h E2
theorem ym{f:List<|V×V}(o:RepE A h Z ds f)(hh:(f.all λe=>h5 e.1)=Do):∃w,Pairs (Gu al A) ds w/\w.map (λq=>V.int q.1)=f.map (·.1)/\∀e∈ds,∃k,(Gu al A).is k e.key=Do/\e.hash=(Gu al A).hash k:=by
 revert hh;refine o.ind (P:=λds f=>(f.all λe=>h5 e.1)=Do->∃w,Pairs (Gu al A) ds w/\w.map (λq=>V.int q.1)=f.map (·.1)/\∀e∈ds,∃k,(Gu al A).is k e.key=Do/\e.hash=(Gu al A).hash k) (λ_=>⟨[],.nil,rfl,λ_ h=>(Ez h).elim⟩) λ{e x Y z}d p _ _ ih hh=>?_;rw[Jv,Ft]at hh;refine a4 (ih hh.2) λw J L b=>?_;obtain⟨eh,ek,ev⟩:=e;obtain⟨k,v⟩:=x;revert d p;refine yl (P:=λk=>_=a8 A k->Rep A h Z ek k->∃w,Pairs (Gu al A) (_::Y) w/\w.map (λq=>V.int q.1)=k::z.map (·.1)/\_) hh.1 λi d p=>p.d3 λt=>gb ((i,ev)::w) (.cons (by simp[Gu,Hy]) rfl J) (aY _ L) λe he=>?_;rcases EG.mp he with rfl|he;.exact bm i (by simp[Gu,Hy]) d
 .exact b e he
theorem yn:∀{m:List α},(m.map w).Nodup->m.Nodup:=by intro v;induction v with|nil=>intro g;exact .nil|cons x o ih=>intro h;rw[Gq,FH]at h;exact FH.mpr ⟨λy=>h.1<|Fx y,ih h.2⟩
theorem n7(g:h.get? Q=j' (bb ds l))(o:RepE A h Z ds f)(X:cZ f)(ha:(f.all λe=>h5 e.1)=Do):∃w:List<|Int×EI,h.DictAt (Gu al A) Q w l/\w.map (λq=>V.int q.1)=f.map (·.1):=by refine a4 (ym (al:=al) o ha) λw J L b=>bm w ⟨_,ds.toArray,g,⟨rfl,rfl,rfl⟩,rfl,λe he=>b e he.1,J,?_⟩ L;have:=X.2;rw[<-L]at this;have e:w.map (λq=>V.int q.1)=(w.map (·.1)).map V.int:=Fb.symm▸rfl;rw[e]at this;exact yn this
set_option tactic.hygienic true in
theorem yo(I Q:EZ)(ds:List FX)(l:Nat)(f:List<|V×V)(K:Q≠I)(X:cZ f)(ha:(f.all λe=>h5 e.1)=Do):Itr n (.Name x px) I [I] (f.map (·.1)) λi h Z=>h.IsKeyIter I Q i f.length l/\Z Q/\h.get? Q=j' (bb ds l)/\RepE n.w h Z ds f where
 mem:=.head _
 mono:=λ{i h h' Z Z'}a hz X=>by refine bM a λJ L b h4=>aA J λD ho o=>⟨⟨D,X _ _ (.inr<|.head _) ho,o⟩,hz _ L,X _ _ (.inl L) b,h4.mono hz λd D M e=>X d D (.inl M) e⟩
 alive:=λ{i h Z}a d ha=>by refine aN a λJ _=>?_;refine aA J λD ho _=>?_;rw[ta.mp ha];exact⟨D,ho⟩
 self:=λ{N r Z i C}⟨J,_⟩hq=>wpAny_pyIter_keyiter J hq
 next:=λ{N r Z H i}hh I' hp a hi=>by
  refine bM a λJ L b h4=>aA (n7 (al:=n.prog) b h4 X ha) λw hm y=>?_;have hl:f.length=w.length:=by have:=aY Hk y;simpa using this.symm
  rw[hl]at J;cases E:(f.map (·.1))[i]? with|none=>
   have:w[i]?=Option.none:=by rw[<-y,ET]at E;simpa using E
   refine wpAny_pyNext_dict_end hh J hm this λh' he=>⟨rfl,eH<|cf he,eI I' hp<|cf he⟩|some u=>rw[<-y,ET]at E;refine aA (EY.mp E) λkv ae s=>?_;subst s;clear E;obtain⟨k,v⟩:=kv;refine wpAny_pyNext_dict_item J hm ae λab h' aa m hs=>⟨_,rfl,?_⟩;have j:∀d D,Z d->r.heap.get? d=j' D->h'.get? d=j' D:=λd D M e=>(hs.2 d λq=>(hp I<|.head _).1<|q▸M).trans e;refine ax (Iz aa) λt s=>?_;clear aa;subst s;exact tk ⟨Z,eH<|cf hs.extBut,eI I' hp<|cf hs.extBut,⟨by rw[hl];exact m,L,j _ _ L b,h4.mono (λ_ M=>M) j⟩,.int _ _⟩
end
section
variable{G:Nat}
theorem iA{aO:Nat}{z:List V}{f:Nat->F6->(EZ->Prop)->Prop}(P:Post r Z H ae as aq)(I1:Inv n ae.heap as aq)(T:Itr n aj ae.heap.objs.size [ae.heap.objs.size] z f)(a:f 0 (ae.heap.push b) as)(q:C z aq):ResI n aj r Z H C (.ref ae.heap.objs.size) {ae with heap:=ae.heap.push b,toks:=aO}:=by have hd:=e0 ae;refine⟨as,aq,z,_,_,f,rfl,P.trans<|fP bR,I1.ext bR,T,a,λd ha=>?_,q⟩;exact ta.mp ha▸⟨kg P hd,I1.dj hd,I1.bu hd⟩
theorem yp{x:EJ}{px:J3}{W:WV}(he:aK n sc G e W):cG n sc G (.Name x px) e λm H C=>W m H λv H=>av (j5 v) λz=>C z H:=by
 intro aa N r Z H m C O I F h;refine bB he O I F h λae as aq d v P I1 F1 o k=>?_;induction v using Mine.Internal.V.casesOn with|str st=>refine dK (D:=if _ then _ else _) k λz E k=>o.dc λt=>aN (nv E) λaz E=>?_;obtain rfl:=EA E;exact wpAny_pyIter_ascii (by simpa using az)<|iA P I1 (vR _ st t) ⟨_,ES _ rfl,rfl,rfl⟩ k|tup z=>refine o.di λt Y l M g q=>?_;have K:t≠ae.heap.objs.size:=EP<|E_ g;exact wpAny_pyIter_tuple ⟨_,g,rfl,l,rfl⟩<|iA P I1 (vO _ t Y l _ K) ⟨⟨_,ES _ rfl,rfl,rfl⟩,M,bR _ _ g,q.mono (λ_ M=>M) λd D _ e=>bR _ _ e⟩ k|lst z=>refine o.ez λt Y l M g q=>?_;have K:t≠ae.heap.objs.size:=EP<|E_ g;exact J5 ⟨_,g,rfl,l,rfl⟩<|iA P I1 (vN _ t Y l _ K) ⟨⟨_,ES _ rfl,rfl,rfl⟩,M,bR _ _ g,q.mono (λ_ M=>M) λd D _ e=>bR _ _ e⟩ k|br f=>
  refine dK (D:=if _ then _ else _) k λz E k=>o.fw λt ds l M g q X=>aN (nv E) λaz E=>?_;obtain rfl:=EA E;have K:t≠ae.heap.objs.size:=EP<|E_ g;refine aA (n7 (al:=n.prog) g q X.1 az) λw hm y=>?_;have hl:w.length=f.length:=by have:=aY Hk y;simpa using this
  exact wpAny_pyIter_dict X.2 hm<|iA P I1 (yo _ t ds l f K X.1 az) ⟨⟨_,ES _ rfl,rfl,by rw[hl];rfl⟩,M,bR _ _ g,q.mono (λ_ M=>M) λd D _ e=>bR _ _ e⟩ k|_=>exact k.elim
theorem rV{K:V->Hp->(List V->Hp->Prop)->Prop}(B:hK n)(hn:l∈jk)(X:sc.lookup (Et l)=j' .globalImplicit)(hd:(Et l==("__debug__":EJ))=EF)(E:Et l≠"__name__")(hb:JO (Et l)=j' v)(hv:∃T,v=.type T)(hs:a5 e=Do)(he:aK n sc G e W)(k:∀{N}{r ae}{Z as}{H aq}{C}{d}{x},bQ G N->Post r Z H ae as aq->Inv n ae.heap as aq->Rep n.w ae.heap as d x->K x aq C->Ey (EE n.prog n.w) N (Hg v [d]) (λv s2=>Ey (EE n.prog n.w) N (Ju v) (ResI n aj r Z H C) aQ s2) aQ ae):cG n sc G aj (.Call (.Name (Et l) a) [e] [] ar) λm H C=>W m H λx H=>K x H C:=by
 intro aa N r Z H m C O I F h;have y:[e].all a5=true:=by simp[hs]
 refine Kw rfl<|kl I F X hd E (B l hn) hb ?_;refine ax hv λT s=>?_;clear hv;clear hb;subst s;refine lW y ?_;rw[fR hs,fS];exact HJ<|bB he O I F h λae as aq d x P I1 F1 o kk=>Ht<|k O P I1 o kk
set_option tactic.hygienic true in
theorem yq{W:WV}(B:hK n)(X:sc.lookup (Et "range")=j' .globalImplicit)(hs:a5 e=Do)(he:aK n sc G e W):cG n sc G (.Name x px) (.Call (.Name (Et "range") a) [e] [] ar) λm H C=>W m H λv H=>av (bN v) λl=>0<=l/\l<1000000/\C (eQ l.toNat) H:=by
 refine rV (K:=λv H C=>av (bN v) λl=>0<=l/\l<1000000/\C (eQ l.toNat) H) B dd X (by decide+kernel) (by decide+kernel) (v:=.type "range") (by kernel_rfl) ⟨_,rfl⟩ hs he λ{N r ae Z as H aq C d v}O P I1 o k=>eF o k λl _ k=>?_;rename_i t;refine aZ k λE i q=>call_range_1 ?_;have P2:Post ae as aq {ae with heap:=ae.heap.push {cls:=.type "range",data:=.fields #[.int 0 ae.toks,.int l t,.int 1<|ae.toks+1]},toks:=ae.toks+1+1} as aq:=fP bR;have S:Inv n (ae.heap.push {cls:=.type "range",data:=.fields #[.int 0 ae.toks,.int l t,.int 1<|ae.toks+1]}) as aq:=I1.ext bR;have e:(if 0<l then l-0 else 0)=l:=by
  by_cases h:0<l;.rw[aF h,Int.sub_zero]
  .rw[aC h];exact Ip E<|FC.mp h
 refine wpAny_pyIter_range (IsRange.new ae.heap 0 l 1 ae.toks t<|ae.toks+1) ?_<|iA (ae:={ae with heap:=_,toks:=ae.toks+1+1}) (P.trans P2) S (vQ _ l.toNat) ?_ q
 .unfold Builtin.Range.small;rw[rangeSize_one];have e2:(l+(1-1):Int)=l:=JG l;have w:∀k,0<=k->k<1000000->Lr k=true:=λk h0 J=>by unfold Lr;simp;exact⟨EC (dd:(-9223372036854775808:Int)<=0) h0,Ie J dd⟩
  rw[e,aF dd,e2,w l E i,w 0 dd dd,w 1 dd dd];simp
 .have e:Builtin.Range.rangeSize 0 l 1=((l.toNat:Nat):Int)-((0:Nat):Int):=by rw[rangeSize_one,e,JA E];exact(Int.sub_zero l).symm
  show(Heap.push _ _).get? _=_;rw[ES _ rfl,e];rfl
set_option tactic.hygienic true in
theorem yr{W:WV}(B:hK n)(X:sc.lookup (Et "enumerate")=j' .globalImplicit)(hs:a5 e=Do)(he:aK n sc G e W):cG n sc G (.Tuple ab k0 p0) (.Call (.Name (Et "enumerate") a) [e] [] ar) λm H C=>W m H λv H=>match v with|.lst z=>C (eR 0 z) H|_=>False:=by
 refine rV (K:=λv H C=>match v with|.lst z=>C (eR 0 z) H|_=>False) B dd X (by decide+kernel) (by decide+kernel) (v:=.type "enumerate") (by kernel_rfl) ⟨_,rfl⟩ hs he λ{N r ae Z as H aq C d v}O P I1 o k=>?_;cases v<;>first|exact k.elim|skip
 rename_i z;refine o.ez λt Y l M g q=>call_enumerate_list ⟨_,g,rfl,l,rfl⟩ λh' ao hl ac X=>wpAny_pyIter_enum ao ?_;have j:ae.heap.get? ae.heap.objs.size=.none:=e0 ae;have d1:ae.heap.get? (ae.heap.objs.size+1)=.none:=Gg<|GV _;have ad:=E_ g;refine⟨as,aq,eR 0 z,_,_,_,rfl,P.trans<|fP (aO:=ae.toks) X,I1.ext X,vS (ae.heap.objs.size+1) ae.heap.objs.size t Y l z (EW<|Fq _) (EP<|Gn ad)<|EP ad,⟨⟨_,ao⟩,hl,M,X _ _ g,q.mono (λ_ M=>M) λd D _ e=>X d D e⟩,λd ha=>?_,k⟩;rcases EG.mp ha with rfl|ha;.exact⟨kg P d1,I1.dj d1,I1.bu d1⟩
 .exact ta.mp ha▸⟨kg P j,I1.dj j,I1.bu j⟩
end
section
variable{G:Nat}
set_option tactic.hygienic true in
theorem yt(hb:eJ D=Do)(V:(a.endLine==ar.line)=Do)(ho:aK n sc G D W):cG n sc G (.Name x px) (.Call (.Attribute D "values" a) [] [] ar) λm H C=>W m H λv H=>match v with|.br f=>C (f.map λe=>e.2) H|_=>False:=by
 intro aa N r Z H m C O I F h;refine gi hb rfl (by simp) V<|bB ho O I F h λae as aq d v P I1 F1 o k pl=>?_;cases v<;>first|exact k.elim|skip
 rename_i f;refine o.fw λt ds l M g q X=>jl g PySem.F.slot_dict_values PySem.F.type_dict_values ?_ pl;refine kn (args:=[]) rfl<|Ht ?_;refine vT g X.2 ?_;have P2:Post ae as aq {ae with heap:=ae.heap.push {cls:=.type "dict_values",data:=.fields #[.ref t]}} as aq:=fP (aO:=ae.toks) bR;have S:Inv n (ae.heap.push {cls:=.type "dict_values",data:=.fields #[.ref t]}) as aq:=I1.ext bR;have g':=bR (D:={cls:=.type "dict_values",data:=.fields #[.ref t]}) t _ g;have K:t≠(ae.heap.push {cls:=.type "dict_values",data:=.fields #[.ref t]}).objs.size:=EP<|E_ g';exact vV ⟨_,ES _ rfl,rfl,rfl⟩ g'<|iA (ae:={ae with heap:=ae.heap.push {cls:=.type "dict_values",data:=.fields #[.ref t]}}) (aO:=ae.toks) (P.trans P2) S (v6 _ t ds l f K) ⟨⟨_,ES _ rfl,rfl,rfl⟩,M,bR _ _ g',q.mono (λp M=>M) λd D p e=>bR _ _<|bR _ _ e⟩ k
set_option tactic.hygienic true in
theorem yu(hb:eJ D=Do)(V:(a.endLine==ar.line)=Do)(ho:aK n sc G D W):cG n sc G (.Tuple ab k0 p0) (.Call (.Attribute D "items" a) [] [] ar) λm H C=>W m H λv H=>match v with|.br f=>C (f.map λe=>.tup [e.1,e.2]) H|_=>False:=by
 intro aa N r Z H m C O I F h;refine gi hb rfl (by simp) V<|bB ho O I F h λae as aq d v P I1 F1 o k pl=>?_;cases v<;>first|exact k.elim|skip
 rename_i f;refine o.fw λt ds l M g q X=>jl g PySem.F.slot_dict_items PySem.F.type_dict_items ?_ pl;refine kn (args:=[]) rfl<|Ht ?_;refine vU g X.2 ?_;have P2:Post ae as aq {ae with heap:=ae.heap.push {cls:=.type "dict_items",data:=.fields #[.ref t]}} as aq:=fP (aO:=ae.toks) bR;have S:Inv n (ae.heap.push {cls:=.type "dict_items",data:=.fields #[.ref t]}) as aq:=I1.ext bR;have g':=bR (D:={cls:=.type "dict_items",data:=.fields #[.ref t]}) t _ g;have K:t≠(ae.heap.push {cls:=.type "dict_items",data:=.fields #[.ref t]}).objs.size:=EP<|E_ g';exact vW ⟨_,ES _ rfl,rfl,rfl⟩ g'<|iA (ae:={ae with heap:=ae.heap.push {cls:=.type "dict_items",data:=.fields #[.ref t]}}) (aO:=ae.toks) (P.trans P2) S (v7 _ t ds l f K) ⟨⟨_,_,ES _ rfl⟩,M,bR _ _ g',q.mono (λp M=>M) λd D p e=>bR _ _<|bR _ _ e⟩ k
abbrev WS:=aL->Hp->(Fl->aL->Hp->Prop)->Prop
def cX(n:a_)(sc:List<|EJ×Fv)(G:Nat)(st:K_)(W:WS):Prop:=∀{aa}{N}{r}{Z}{H}{m}{C},bQ G N->Inv n r.heap Z H->Fm n r.heap Z H aa sc m->W m H C->Ey (EE n.prog n.w) N (exec st aa) (ResS n aa sc r Z H C) aQ r
theorem ResS.up(j:eZ aa r Z H ae as aq)(o:ResS n aa sc ae as aq C w s2):ResS n aa sc r Z H C w s2:=by obtain⟨Z2,H2,l2,fl,p2,S,F2,hf,q⟩:=o;exact⟨Z2,H2,l2,fl,hE j p2 F2,S,F2,hf,q⟩
theorem yv:eU n sc G [] λm H C=>C .nx m H:=by intro aa N r Z H m C O I F h;exact ML ⟨Z,H,m,.nx,rd aa r Z H,I,F,trivial,h⟩
theorem yw{st:K_}{p:List K_}{W1 W2:WS}(J:cX n sc G st W1)(L:eU n sc G p W2):eU n sc G (st::p) λm H C=>W1 m H λw m H=>match w with|.nx=>W2 m H C|.rt v=>C (.rt v) m H:=by
 intro aa N r Z H m C O I F h;refine wpAny_execs_cons<|EK (J O I F h) (λw ae R=>?_) λd d x=>x;obtain⟨as,aq,l1,fl,P,I1,F1,hf,q⟩:=R;induction w<;>induction fl<;>first|exact HQ hf|skip
 .exact EK (L O I1 F1 q) (λd d R=>R.up P) λd d x=>x
 .exact⟨as,aq,l1,.rt _,P,I1,F1,hf,q⟩
set_option tactic.hygienic true in
theorem yx(i:Nat)(h:eU n sc G p W):eU n sc G p λm H C=>av (m i) λv=>av (cF v) λd=>av (H d) λD=>match D with|.list z=>W (m.set i<|.lst z) (H.del d) C|.dict f=>W (m.set i<|.br f) (H.del d) C|_=>False:=by
 intro aa N r Z H m C O I F hq;refine dK hq λv hl hq=>dK hq λd ha hq=>dK hq λD A hq=>?_;obtain rfl:=IV<|qT ha;have s:∀x,(∀{va},Rep n.w r.heap Z va (.ref d)->Rep n.w r.heap (λp=>Z p\/p=d) va x)->(D≠.b9/\∀c dx fs,D≠.inst c dx fs)->(∃ob,r.heap.get? d=j' ob)->W (m.set i x) (H.del d) C->Ey (EE n.prog n.w) N (execs p aa) (ResS n aa sc r Z H C) aQ r:=by
  intro x E ho u hw;have P:Post r Z H r (λp=>Z p\/p=d)<|H.del d:=⟨rfl,rfl,λw w e w=>e,λw M=>.inl M,λp M=>M.imp id λe=>.inl<|by rw[e,A];simp,λp hb=>by
   by_cases e:p=d;.rw[e,Hp.bp]at hb;exact aJ rfl hb
   .rw[Hp.c8 _ e]at hb;exact .inl hb,λw D e=>⟨D,e⟩⟩;have F1:=F.post I P;have F2:Fm n r.heap (λp=>Z p\/p=d) (H.del d) aa sc<|m.set i x:=by
   have hi:=F.low i _ hl;have V:∀{a}{v},(m.set i x) a=j' v->a=i/\v=x\/m a=j' v:=λ{a v}e=>by
    delta aL.set at e;split at e;.rename_i q;exact .inl ⟨q,(EA e).symm⟩
    .exact .inr e
   refine aA F1.ns λy hn hm=>aA F.ns λm0 am ab=>⟨F1.kind,F1.names,F1.globals,F1.builtins,⟨m0,am,λa v e k=>?_⟩,λa v e k=>?_,F1.bc,λa v e=>?_,F1.lz,F1.lh,F1.cz,F1.apart⟩
   .refine(V e).elim (λM=>?_) λe=>?_;.rw[M.2];refine aA (ab a (.ref d) (by rw[M.1];exact hl) k) λva J L=>bm va J<|E L
    .refine aA (ab a v e k) λva J L=>bm va J<|L.mono (λw M=>.inl M) λw w w e=>e
   .refine(V e).elim (λM=>?_) λe=>?_;.rw[M.2];refine cM (F.cell a (.ref d) (by rw[M.1];exact hl) k) λc va J L b=>dZ c va J L<|E b
    .exact F1.cell a v e k
   .refine(V e).elim (λM=>?_) λe=>?_;.rw[M.1];exact hi
    .exact F.low a v e
  exact EK (h O ((I.del A ho.1 ho.2).freeze (Hp.bp H d) u) F2 hw) (λw w R=>R.up P.px) λw w x=>x
 induction D with|list z=>refine bn (I.obj d _ A) λY l g o=>s _ (λ{va}j=>j.fb<|.lst d Y l z (.inr rfl) g<|o.mono (λw M=>.inl M) λw w w e=>e) ⟨by simp,by simp⟩ ⟨_,g⟩ hq|dict f=>refine cM (I.obj d _ A) λds l g o X=>s _ (λ{va}j=>j.fb<|.br d ds l f (.inr rfl) g (o.mono (λw M=>.inl M) λw w w e=>e) X) ⟨by simp,by simp⟩ ⟨_,g⟩ hq|_=>exact hq.elim
theorem yy(he:aK n sc G e W):cX n sc G (.Return (j' e) ar) λm H C=>W m H λv H=>C (.rt v) m H:=by intro aa N r Z H m C O I F h;exact wpAny_Return_some<|bB he O I F h λae as aq d x P I1 F1 o k=>⟨as,aq,m,.rt x,P.px,I1,F1,o,k⟩
theorem yz(ht:dE n sc G t b)(ha:eU n sc G d a)(hb:eU n sc G p i):cX n sc G (.If t d p ar) λm H C=>b m H λo H=>if o then a m H C else i m H C:=by
 intro aa N r Z H m C O I F h;refine wpAny_If<|EK (ht O I F h) (λc ae o=>?_) λe e x=>x;obtain⟨as,aq,x,P,I1,rfl,q⟩:=o;have F1:=F.post I P;induction c;.exact EK (hb O I1 F1 q) (λe e R=>R.up P.px) λe e x=>x
 .exact EK (ha O I1 F1 q) (λe e R=>R.up P.px) λe e x=>x
theorem yA(ht:dE n sc G t b)(hb:eU n sc G p i):cX n sc G (.While t p [] ar) λm H C=>∃f:Nat->aL->Hp->Prop,(∃l,f l m H)/\∀l m H,f l m H->b m H λo H=>if o then i m H λw m H=>match w with|.nx=>∃y,y<l/\f y m H|.rt v=>C (.rt v) m H else C .nx m H:=by
 intro aa N r Z H m C O I F h;refine aA h λf s LO=>ax s λn0 A=>wpAny_While<|codeAny_whileLoop (λl s'=>∃Z' H' l',eZ aa r Z H s' Z' H'/\Inv n s'.heap Z' H'/\Fm n s'.heap Z' H' aa sc l'/\f l l' H') ?_ n0 ⟨Z,H,m,rd aa r Z H,I,F,A⟩;intro l s' s;refine dJ s λZ' H' l' j I' Y a=>?_;refine EK (ht O I' Y<|LO l l' H' a) (λc ae o=>?_) λd d x=>x.elim;obtain⟨as,aq,x,P,I1,rfl,q⟩:=o;have F1:=Y.post I' P;have P1:=v9 j P F1;induction c;.dsimp only[Fh,if_false]at q⊢;exact ML ⟨as,aq,l',.nx,P1,I1,F1,trivial,q⟩
 .dsimp only[if_true]at q⊢;refine EK (hb O I1 F1 q) (λw s2 R=>?_) λd d x=>x.elim;obtain⟨Z2,H2,l2,fl,p2,S,F2,hf,q⟩:=R;have P2:=hE P1 p2 F2;induction w<;>induction fl<;>first|exact HQ hf|skip
  .refine aA q λy hm z=>⟨y,hm,Z2,H2,l2,P2,S,F2,z⟩
  .exact⟨Z2,H2,l2,.rt _,P2,S,F2,hf,q⟩
theorem yB(hI:cG n sc G aj iter d_)(hG:cR n FA sc G aj WG)(ab:eU n sc G body b)(hs:∀aa x,Gw iter aa x=pure x):cX n sc G (.For aj iter body [] ar) λm H C=>d_ m H λz H=>z.length<=aR/\fN b WG z m H C:=by intro aa N r Z H m C O I F h;refine wi (d_:=λm H C=>d_ m H λz H=>z.length<=aR/\C z H) (λ{aa N r Z H m C}O I F h=>?_) hG ab hs O I F h;refine EK (hI O I F h) (λv ae J=>EK J (λit s2 o=>?_) λd d x=>x) λd d x=>x;obtain⟨Z2,H2,z,I',A,f,e,P,S,T,a,hp,_,q⟩:=o;exact⟨Z2,H2,z,I',A,f,e,P,S,T,a,hp,q⟩
noncomputable def n8:Ff->Option L_|.ListComp _ _ r _=>j' r|.SetComp _ _ r _=>j' r|.DictComp _ _ _ r _=>j' r|_=>kf
noncomputable def jm(sc:List<|EJ×Fv)(a t:Ff):Bool:=match n8 a,t with|some scope,.Name t ar=>sc.lookup t==j' .local&&ar.line==a.pos.line&&! scope.names.any λ(l,k)=>l==t&&(k==.local||k==.cell)|_,_=>EF
theorem rW(F:Fm n h Z H aa sc m):aa.blockKind=.function:=by unfold Env.blockKind;exact F.kind.symm▸rfl
theorem n9(F:Fm n h Z H aa sc m)(a t:Ff)(b:Nat):Ls a (j' t) b aa=pure (jm sc a t):=by
 have X:∀k,aa.kindOf k=sc.lookup k:=λk=>F.kd;delta Ls jm;cases a<;>first|rfl|skip
 all_goals(cases t<;>first|rfl|exact aY (pure (f:=J2))<|by rw[rW F,X];rfl)
theorem yC(hb:n8 e=kf)(he:aK n sc G e W):cX n sc G (.Expr e ar) λm H C=>W m H λp H=>C .nx m H:=by
 intro aa N r Z H m C O I F h;have hi:interactive aa=false:=by unfold interactive;exact F.kind▸rfl
 have hs:Ls e kf ar.line aa=pure false:=by clear he;cases e<;>first|rfl|exact aP hb.symm
 exact exec_Expr aa e ar hi hs▸s0 (Gc<|s0<|bB he O I F h λae as aq d x P I1 F1 o k=>wpAny_dropValue ⟨as,aq,m,.nx,P.px,I1,F1,trivial,k⟩)
end
section
variable{n:a_}{sc:List<|EJ×Fv}{G:Nat}
noncomputable def rX(sc:List<|EJ×Fv)(ts:List Ff):List PySem.Str:=ts.filterMap λt=>match t with|.Name id ar=>if sc.lookup id==j' .local&&ar.line==(ts.head?.map (·.pos.line)).getD 0 then j' id else kf|_=>kf
noncomputable def n_(sc:List<|EJ×Fv)(t a:Ff):Bool:=match t,a with|.Tuple ts _ _,.Tuple _ _ _=>(rX sc ts).length !=ts.length|.List _ _,.Tuple _ _ _=>EF|_,_=>Do
theorem yD(F:Fm n h Z H aa sc m)(hp:((rX sc ts).length !=ts.length)=Do):Ki [.Tuple ts k1 p1] (.Tuple Y A p2) aa=pure Option.none:=by have X:∀k,aa.kindOf k=sc.lookup k:=λk=>F.kd;dsimp only[Ki];refine ite_eq_left_iff.mpr λ_=>?_;refine ite_eq_left_iff.mpr λ_=>?_;refine aF ?_;rw[KL];left;refine(aY (λx:List EJ=>x.length !=ts.length)<|q1 λt _=>?_).trans hp;cases t<;>first|rfl|exact aY (λM=>if(M==j' .local&&_)=Do then j' _ else kf)<|X _
theorem yE(F:Fm n h Z H aa sc m)(hp:n_ sc t a=Do):Ki [t] a aa=pure Option.none:=by
 cases t;case Tuple=>cases a<;>first|rfl|exact yD F hp
 case List=>cases a<;>first|rfl|exact EX hp
 all_goals rfl
set_option tactic.hygienic true in
theorem yF(K:a5 t=Do)(a:jm sc e t=EF)(b:n_ sc t e=Do)(he:aK n sc G e W)(hG:cR n FA sc G t WG):cX n sc G (.Assign [t] e ar) λm H C=>W m H λv H=>WG v m H λm H=>C .nx m H:=by
 intro aa N r Z H m C O I F h;rw[MM];have J:N3 [t] e ar.line aa=pure false:=by show Ls e (j' t) ar.line aa=_;rw[n9 F,a]
 refine s0<|Gc<|s0<|HO J ?_;rw[aC E2];refine s0<|bB he O I F h λae as aq d x P I1 F1 o k=>s0<|HO (yE F1 b) ?_;rw[nK K];show Ey _ _ (Ni t aa d>>=λ_=>pure Oi) _ _ _;refine s0<|EK (hG O I1 F1 o k) (λ_ s2 R=>tk ?_) λ_ _ x=>x;obtain⟨Z2,H2,l2,p2,S,F2,q⟩:=R;exact⟨Z2,H2,l2,.nx,hE P.px p2 F2,S,F2,trivial,q⟩
set_option tactic.hygienic true in
theorem yG(hi:i<bU.length)(X:sc.lookup (aI i)=j' .local)(a:jm sc e (.Name (aI i) j)=Do)(he:∀aa V,evalThenUse e aa V=do let _<-kq e aa<|j' V)(hc:hL n sc G e W):cX n sc G (.Assign [.Name (aI i) j] e ar) λm H C=>W m H λv H=>C .nx (m.set i v) H:=by
 intro aa N r Z H m C O I F h;rw[MM];have J:N3 [.Name (aI i) j] e ar.line aa=pure true:=by show Ls e (j'<|.Name (aI i) j) ar.line aa=_;rw[n9 F,a]
 refine s0<|Gc<|s0<|HO J ?_;rw[aF rfl];rw[he];refine s0<|s0<|hc (Qv:=λ_ s'=>Ey (EE n.prog n.w) N (pure ()) (λ_ s2=>Ey (EE n.prog n.w) N (pure Oi) (ResS n aa sc r Z H C) aQ s2) aQ s') O I F h λao af s' Z' H' x P I' o hm hz hh hd q=>?_;have u:af≠aa.locals:=λe=>by refine aZ (F.fa<|.inl rfl) λ_ _ s=>ax s λD ho=>?_;rw[<-e,hd]at ho;exact aP ho
 have b:¬FA aa af:=λw=>by refine aZ (F.fa w) λ_ _ s=>ax s λD ho=>?_;rw[hd]at ho;exact aP ho
 show Ey _ _ (Ni (.Name (aI i) j) aa ao) _ _ _;refine wpAny_assign_Name<|lI (ex:=FA aa) hi I' (F.post I P) o (.inr ⟨.inl X,rfl⟩) λs2 p2 S F2=>?_;refine ax hm λy hm=>fJ hm λD f ep ho ad=>bm y ⟨D,f,ep,p2.keep af D ho hh b,ad⟩ λh' hs=>tk<|tk ?_;have p3:PX (λd=>d=af) s2 Z' H' {s2 with heap:=h'} Z' H':=⟨rfl,rfl,λd D e _ E=>(hs.2 d E).trans e,λ_ M=>M,λ_ M=>.inl M,λ_ M=>.inl M,λd D e E=>⟨D,(hs.2 d E).trans e⟩⟩;have l:∀d,Z' d->¬d=af:=λd M e=>hz<|e▸M;have I3:Inv n h' Z' H':=S.ext2 (λ_ M=>M) (λ_ M=>.inl M) λp D q e=>(hs.2 p λA=>by
  refine q.elim (λq=>?_) λq=>?_;.exact l p q A
  .exact q<|A▸hh).trans e;have R:=F2.px S p3 (λd w e=>b<|e▸w) l;refine⟨Z',H',m.set i x,.nx,?_,I3,R,trivial,q⟩;exact kb (hE P.px p2 F2) p3 (λd e=>.inr<|e▸hd) R
theorem yH(m:aL)(h:i≠a)(x u:V):(m.set i x).set a u=(m.set a u).set i x:=by
 funext k;dsimp only[aL.set];by_cases J:k=i;.subst J;simp[h]
 .simp[J]
def kr(sc:List<|EJ×Fv)(i a:Nat)(p1 p2:J3)(e1 e2:Ff):Bool:=sc.lookup (aI i)==j' .local&&sc.lookup (aI a)==j' .local&&p1.line==p2.line&&aI i !=aI a&&a5 e1&&a5 e2&&!([e1,e2].all<|foldedForSure 8)&&!([e1,e2].all<|constantsAlone 8)
theorem yI{F:Ff->Bool}(d:∀e,F e=!a5 e)(h5:a5 e1=Do)(h6:a5 e2=Do):¬[e1,e2].any F=true:=by rw[Kh,Kh,d,d,h5,h6];exact E2
theorem rY{F:Ff->Option EJ}(J:F x=j' d)(L:F u=j' p):[x,u].filterMap F=[d,p]:=(JQ J).trans<|aY (Pk d)<|JQ L
theorem yJ{m:List EJ}(e:m=[d,p])(hd:[d,p].eraseDups.length=2)(h:(m.length !=2||m.eraseDups.length !=m.length)=Do):False:=by rw[e,hd]at h;exact aJ h E2
theorem yK{e1 e2:Ff}(F:Fm n h Z H aa sc m)(hp:kr sc i a p1 p2 e1 e2=Do):Ki [.Tuple [.Name (aI i) p1,.Name (aI a) p2] k1 tp] (.Tuple [e1,e2] A l) aa=pure (j' [aI i,aI a]):=by
 have X:∀k,aa.kindOf k=sc.lookup k:=λk=>F.kd;have hp:=hp;dsimp only[kr]at hp;simp only[Ft,Iw]at hp;refine aN hp λs E=>aN s λz2 h7=>aN z2 λz3 h6=>aN z3 λz4 h5=>aN z4 λf h4=>aN f λp b=>aN p λJ L=>?_;have hd:([aI i,aI a].eraseDups).length=2:=by
  have d:(aI a==aI i)=false:=by
   have:aI i≠aI a:=by simpa using h4
   simpa usingλe=>this e.symm
  simp[List.eraseDups_cons,d]
 have hl:(p2.line==p1.line)=true:=by rw[beq_iff_eq]at b⊢;exact b.symm
 have c1:(aa.kindOf (aI i)==j' .local&&p1.line==p1.line)=true:=by rw[X,J,beq_self_eq_true];rfl
 have c2:(aa.kindOf (aI a)==j' .local&&p2.line==p1.line)=true:=by rw[X,L,hl];rfl
 dsimp only[Ki];refine(aC ?_).trans<|(aC ?_).trans<|(aC ?_).trans<|(aC ?_).trans<|(aC ?_).trans ?_;.exact(rW F).symm▸E2
 .exact yI λe=>by cases e<;>rfl h5 h6
 .exact yJ (rY (aF c1)<|aF c2) hd
 .exact h7▸E2
 .exact E▸E2
 .exact aY (λx=>(pure<|j' x:J2<|Option<|List EJ))<|rY (aF c1)<|aF c2
theorem rZ(h:Ey (EE n.prog n.w) N (storeName aa x v) C aQ r):Ey (EE n.prog n.w) N (Lf aa x v) C aQ r:=λΓ j a=>by rw[Sem.wp_bindName];exact h Γ j a
set_option tactic.hygienic true in
theorem yL(hi:i<bU.length)(hj:a<bU.length)(hp:kr sc i a p1 p2 e1 e2=Do)(he:aK n sc G (.Tuple [e1,e2] A l) W):cX n sc G (.Assign [.Tuple [.Name (aI i) p1,.Name (aI a) p2] k1 tp] (.Tuple [e1,e2] A l) ar) λm H C=>W m H λv H=>av (bT H v) λz=>z.length=2/\match z with|[]=>False|x::z=>match z with|[]=>False|u::z=>z=[]/\C .nx ((m.set i x).set a u) H:=by
 intro aa N r Z H m C O I F h;have am:=hp;simp only[kr,Ft,Iw]at am;refine aN am λs _=>aN s λz2 _=>aN z2 λz3 _=>aN z3 λz4 _=>aN z4 λf h4=>aN f λp _=>aN p λJ L=>?_;have y:i≠a:=λe=>by rw[e]at h4;simp at h4
 rw[MM];have h0:N3 [.Tuple [.Name (aI i) p1,.Name (aI a) p2] k1 tp] (.Tuple [e1,e2] A l) ar.line aa=pure false:=by show Ls (.Tuple [e1,e2] A l) (j'<|.Tuple [.Name (aI i) p1,.Name (aI a) p2] k1 tp) ar.line aa=_;rw[n9 F];rfl
 refine s0<|Gc<|s0<|HO h0 ?_;rw[aC E2];refine s0<|bB he O I F h λae as aq d v P I1 F1 o k=>s0<|HO (yK F1 hp) ?_;cases E:bT aq v with|none=>rw[E]at k;exact k.elim|some z=>
  rw[E]at k;refine aN k λaw k=>?_;rcases z with _|⟨x,_|⟨u,_|⟨M,z⟩⟩⟩;.exact k.elim
  .exact k.elim
  .refine aN k λ_ q=>?_;show Ey _ _ (do rule "assign.swapped-stores";let items<-MX d 2 kf;NY [Lf aa<|aI a,Lf aa<|aI i] items.reverse;pure Oi) _ _ _;refine s0<|G9<|s0<|rc O.2.2 I1 o E aw λY s2 P2 S r2=>?_;have F2:=F1.post I1 P2;refine r2.b7 λva _ j r2=>r2.b7 λD _ b r2=>r2.et ?_;show Ey _ _ (do NY [Lf aa<|aI a,Lf aa<|aI i] [D,va];pure Oi) _ _ _;refine s0 ?_;show Ey _ _ (do Kv [va]<|Lf aa (aI a) D;Kv []<|Lf aa (aI i) va;pure ()) _ _ _;refine s0<|E4<|rZ<|lI (ex:=FA aa) hj S F2 b (.inr ⟨.inl<|by simpa using L,rfl⟩) λs3 p3 I3 R=>?_;refine s0<|E4<|rZ<|lI (ex:=FA aa) hi I3 R (p3.rep S (λd M w=>(F2.fa w).1 M) j) (.inr ⟨.inl<|by simpa using J,rfl⟩) λs4 p4 I4 F4=>?_;refine tk<|tk ?_;rw[yH m y]at q;exact⟨as,aq,_,.nx,hE (hE (P.trans P2).px p3 R) p4 F4,I4,F4,trivial,q⟩
  .exact(Ml _ _ k.1).elim
end
section
variable{aa:IC}
set_option tactic.hygienic true in
theorem yM(s t1 i1 t2 i2:Ff)(scope:L_)(ar:J3)(it ao:EI)(aa:IC):NG (.ListComp s [⟨t1,i1,[],0⟩,⟨t2,i2,[],0⟩] scope ar) 0 it ao aa=(do Ku i1.pos match<-Ix it with
   |kf=>pure<|.done .next|some v=>
    MG t1 it v
    Ni t1 aa v let mut ok:=Do
    for c in([]:List Ff)do if ok then ok<-Od c aa<|Hb c aa
    if ok then
     let x<-Hb i2 aa
     Ku i2.pos let x<-Gw i2 aa x let _<-runOwn (.compStart (.ListComp s [⟨t1,i1,[],0⟩,⟨t2,i2,[],0⟩] scope ar) 1 (<-Kv [x]<|Ju x) ao aa) aa
    again<|.compLoop (.ListComp s [⟨t1,i1,[],0⟩,⟨t2,i2,[],0⟩] scope ar) 0 it ao aa):=by rfl
theorem yN(h0:Hl (EE al A) N (.compLoop (.ListComp s [⟨t1,i1,[],0⟩,⟨t2,i2,[],0⟩] scope ar) 1 it ao aa) R r)(h:Ey (EE al A) N (Ju it) (λa s'=>Hl (EE al A) N (.compLoop (.ListComp s [⟨t1,i1,[],0⟩,⟨t2,i2,[],0⟩] scope ar) 1 a ao aa) R s') (notedBy (EE al A) N aa λx s'=>R (.error x) s') r):Hl (EE al A) N (.compStart (.ListComp s [⟨t1,i1,[],0⟩,⟨t2,i2,[],0⟩] scope ar) 1 it ao aa) R r:=by
 refine MN ?_;show Ey _ _ ((compStart (.ListComp s [⟨t1,i1,[],0⟩,⟨t2,i2,[],0⟩] scope ar) 1 it ao aa).onRaise λx=>do MH x aa;Ku theWindowsPlace) _ _ r;refine wpAny_notedAt ?_;unfold compStart;show Ey _ _ (ask>>=_) _ _ r;refine s0<|Js<|wpAny_ite ?_;split;.first|exact s0<|tk<|tk<|Oj rfl h0|exact tk<|Oj rfl h0
 .first|exact s0<|G9<|s0<|Gc<|s0<|EK h (λa s' h'=>tk<|Oj rfl h') λd d x=>x|(refine s0<|G9 ?_;show Ey _ _ (Ku i2.pos>>=_) _ _ r;exact s0<|Gc<|s0<|EK h (λa s' h'=>tk<|Oj rfl h') λd d x=>x)
set_option tactic.hygienic true in
def yO(al:Hc)(A:F7)(N:GI)(aa:IC)(i2 e:Ff)(ao:EI)(I:Nat->EQ->Prop)(l:Nat)(r:EQ):Prop:=Ey (EE al A) N (Hb i2 aa) (λx s4=>Ey (EE al A) N (Ju x) (λM X=>Hl (EE al A) N (.compStart e 1 M ao aa) (λo s6=>o=.ok .next/\Go I l s6) X) aQ s4) aQ r
set_option tactic.hygienic true in
theorem yP(j:∀x,Gw i2 aa x=pure x)(I:Nat->EQ->Prop)(e:∀l r,I l r->jd al A N aa t1 it (R<|.ok .next) (yO al A N aa i2 (.ListComp s [⟨t1,i1,[],0⟩,⟨t2,i2,[],0⟩] scope ar) ao I l) r)(l:Nat)(h:I l r):Hl (EE al A) N (.compLoop (.ListComp s [⟨t1,i1,[],0⟩,⟨t2,i2,[],0⟩] scope ar) 0 it ao aa) R r:=by refine Of rfl I (λl r hI=>?_) l h;show Ey _ N ((NG (.ListComp s [⟨t1,i1,[],0⟩,⟨t2,i2,[],0⟩] scope ar) 0 it ao aa).onRaise λx=>do MH x aa;KG x) _ _ r;refine MY<|hH ?_;rw[yM];refine s0<|Gc<|s0<|EK (e l r hI) (λo ae J=>?_) λd d x=>x;induction o with|none=>exact tk J|some v=>refine s0<|EK J (λd s2 L=>s0<|EK L (λd s3 b=>?_) λd d x=>x) λd d x=>x;dsimp only;rw[List.forIn_nil];refine s0<|tk ?_;refine ie rfl<|s0<|EK b (λx s4 h4=>s0<|Gc<|s0<|HO (j x)<|s0<|E4<|EK h4 (λM X h5=>?_) λd d x=>x) λd d x=>x;refine s0<|wpAny_runOwn (h:=kf)<|IJ h5 λo s6 h6=>?_;obtain⟨rfl,h6⟩:=h6;exact tk ⟨rfl,h6⟩
end
section
variable{m:aL}{scope:L_}
theorem Fm.sub(F:Fm n h Z H aa sc l5)(hs:∀i v,m i=j' v->l5 i=j' v):Fm n h Z H aa sc m:=by refine aA F.ns λy hn hm=>⟨F.kind,F.names,F.globals,F.builtins,⟨y,hn,λi v e k=>hm i v (hs i v e) k⟩,λi v e k=>F.cell i v (hs i v e) k,F.bc,λi v e=>F.low i v<|hs i v e,F.lz,F.lh,F.cz,F.apart⟩
theorem r0(h:m p=kf)(c:Nat)(v:V)(e:m c=j' v):(m.set p u) c=j' v:=by show(if c=p then j' u else m c)=j' v;rw[aC λq=>by rw[q,h]at e;cases e];exact e
inductive C2(p:LP)(W:V->List V->Hp->(List V->Hp->Prop)->Prop)(Q:List V->Hp->Prop)(n:Nat)(s:Shared):Prop|mk(i:Nat)(Z:Addr->Prop)(H:Hp)(vs:List Value)(acc:List V)(k:Nat):LS p (LX p.C.w p.D vs acc k) s Z H->p.G i s.heap Z H->i<=p.xs.length->n=p.xs.length-i->acc.length<=1000*i->ja W (p.xs.drop i) acc H Q->C2 p W Q n s
abbrev lY(al:WL)(b:WV)(m:aL)(d p:Nat):V->List V->Hp->(List V->Hp->Prop)->Prop:=λx ao H k=>al (m.set d x) H λys H=>ys.length<=1000/\cV (λu H kY c=>b ((m.set d x).set p u) H kY) ys ao H k
abbrev r1(j:LP)(r:EQ)(Z:EZ->Prop)(H:Hp)(l3:aL)(p:Nat)(p2:J3)(i:Nat)(I:EZ)(A:List EZ)(ys:List V)(f:Nat->F6->(EZ->Prop)->Prop):LP:=⟨j.C,j.env,j.sc,l3,j.D,.Name (aI p) p2,I,A,(·∈A),ys,λi h Z H=>f i h Z/\∀d∈A,¬Z d/\H d=kf,λs' Z' H'=>Post r Z H s' Z' H'/\j.G i s'.heap Z' H',λl5=>∃u,l5=l3.set p u⟩
theorem yQ{j:LP}(c:LC j)(ab:j.B=λs' Z' H'=>Post r Z H s' Z' H')(Q:r.heap.get? j.env.locals=kf)(K:r.heap.get? j.D=kf){an:F6->(EZ->Prop)->Prop}(af:LS j an ae as aq){i:Nat}(a:j.G i ae.heap as aq){l3:aL}{p:Nat}{p2:J3}(w:Fm j.C ae.heap as aq j.env j.sc l3)(X:l3 p=kf)(T:Itr j.C (.Name (aI p) p2) I A ys f)(hp:∀d∈A,ae.heap.get? d=kf):LC (r1 j r Z H l3 p p2 i I A ys f)where
 T:=It2.of T
 pf d y q:=by refine aZ (w.fa q) λG G s=>ax s λD ho=>?_;rw[hp d y]at ho;exact aP ho
 df:=c.df
 dp y:=by refine ax (af.k.alive af.x) λD ho=>?_;rw[hp _ y]at ho;exact aP ho
 base e _ _ _ _ F5:=by refine ax e λu s=>?_;clear e;subst s;exact F5.sub<|r0 X
 hB p hI q hz he:=by
  have b:Post r Z H ae as aq:=(congrFun (congrFun (congrFun ab ae) as) aq).mp af.b;refine⟨p.1.en q λd e=>?_,c.T.keep p.2 hI q (λd y e=>?_) hz⟩
  .rcases he d e with e|e|e;.rw[show d=_ from e];exact Q
   .exact kg b<|hp d e
   .rw[show d=_ from e];exact K
  .rcases he d e with e|e|e;.exact c.pf d y<|.inl e
   .refine aZ (c.T.ok a d y) λG G s=>ax s λD ho=>?_;rw[hp d e]at ho;exact aP ho
   .exact c.dp<|(show d=j.D from e)▸y
set_option tactic.hygienic true in
theorem yR(c:LC j)(ab:j.B=λs' Z' H'=>Post r Z H s' Z' H')(Q:r.heap.get? j.env.locals=kf)(K:r.heap.get? j.D=kf)(O:bQ G N)(aD:j.aq=.Name (aI d) p1)(aG:j.l d=kf)(ax:j.l p=kf)(aj:d≠p)(am:∀x,Gw i2 j.env x=pure x)(ay:cR j.C LA j.sc G j.aq λx m H C=>C (m.set d x) H)(az:cR j.C LA j.sc G (.Name (aI p) p2) λx m H C=>C (m.set p x) H)(S:∀m,j.rel m)(ap:cG j.C j.sc G (.Name (aI p) p2) i2 al)(hE:aK j.C j.sc G s b)(af:LS j (LX j.C.w j.D [] [] k0) ae as aq)(a:j.G 0 ae.heap as aq)(ac:j.xs.length<=1000)(hw:ja (lY al b j.l d p) j.xs [] aq C)(fin:∀s' Z' H' Y ys k,LS j (LX j.C.w j.D Y ys k) s' Z' H'->C ys H'->R (.ok .next) s'):Hl (EE j.C.prog j.C.w) N (.compLoop (.ListComp s [⟨j.aq,i1,[],0⟩,⟨.Name (aI p) p2,i2,[],0⟩] scope ar) 0 (.ref j.I) (.ref j.D) j.env) R ae:=by
 refine yP am (C2 j (lY al b j.l d p) C) (λl r t=>?_) j.xs.length ⟨0,as,aq,[],[],k0,af,a,E8 _,rfl,EM _,hw⟩;obtain⟨i,Z,H,Y,ao,k,af,a,hi,rfl,ha,hw⟩:=t;refine af.turn c a O hi ay (λh=>⟨S _,h⟩) (W:=λx l' H=>l'=j.l.set d x/\al (j.l.set d x) H λys H=>ys.length<=1000/\cV (λu H kY e=>b ((j.l.set d x).set p u) H kY) ys ao H λn H'=>ja (lY al b j.l d p) (j.xs.drop<|i+1) n H' C) (λaa ae af=>?_) (λx E=>?_) λx s3 Z3 H3 l3 E af a w q=>?_;.rw[G5 aa]at hw;exact fin ae Z H Y ao k af hw
 .rw[lK E]at hw;exact⟨rfl,hw⟩
 .have ad:i<j.xs.length:=(EN.mp E).1;obtain⟨rfl,q⟩:=q;refine EK (ap O af.i w q) (λva s6 h6=>EK h6 (λM s7 h7=>?_) λe e x=>x) λe e x=>x;obtain⟨Z7,H7,ys,I,A,f,rfl,P7,I7,T,av,hp,an,aA⟩:=h7;have V:=af.post c P7 I7;have X:(j.l.set d x) p=.none:=(aC<|HF aj).trans ax;have z:LS (r1 j _ _ _ (j.l.set d x) p p2 (i+1) I A ys f) (LX j.C.w j.D Y ao k) s7 Z7 H7:=⟨LX.keeps,⟨(congrFun (congrFun (congrFun ab s7) Z7) H7).mp V.b,c.T.keep (ex:=λe=>False) a af.i P7.px (λe e x=>x) λe e x=>x⟩,I7,w.post af.i P7,V.x,V.z,V.h⟩;have D:(λu H kY e=>b ((j.l.set d x).set p u) H kY)=eV (λx m H C=>C (m.set p x) H) (λe H C=>C Do H) b (j.l.set d x):=funext λe=>funext λh=>funext λe=>funext λL=>show _=if Do=Do then _ else L h from(aF rfl).symm;have aw:=rj (iter:=i2) (scope:=scope) (ar:=ar) (R:=λo s6=>o=.ok .next/\Go (C2 j (lY al b j.l d p) C) (j.xs.length-i) s6) (yQ (p2:=p2) c ab Q K af a w X T λd y=>(hp d y).1) az rg hE O (wm ⟨j.aq,i1,[],0⟩ ..) (λ{u _ _}h=>⟨⟨u,rfl⟩,h⟩) z ⟨av,λd y=>(hp d y).2⟩ (show ao.length+ys.length<=1000000 by exact cy 0x3bdef69e848045b861a7d0a1d402a305f42834fa140 rfl ac ha ad an) (D▸aA) λs' Z' H' J aB k' z hl q=>⟨rfl,_,Jz ad<|Fq i,i+1,Z',H',J,aB,k',⟨LX.keeps,(congrFun (congrFun (congrFun ab s') Z') H').mpr z.b.1,z.i,z.f.sub<|r0 aG,z.x,z.z,z.h⟩,z.b.2,ad,rfl,ED hl<|show ao.length+ys.length<=1000*(i+1)by exact aT 0x3bda31c1487e853840a7d0a15181fa140 rfl ha an,q⟩;exact yN aw<|hH<|(It2.of T).self ⟨av,λd y=>(hp d y).2⟩ aw
theorem yS(aj:d≠p)(K:CompOk sc scope [d,p])(f:∀aa x,Gw i1 aa x=pure x)(am:∀aa x,Gw i2 aa x=pure x)(ha:(bL sc scope.names).lookup (aI d)=j' .local)(hb:(bL sc scope.names).lookup (aI p)=j' .local)(o:cG n sc G (.Name (aI d) p1) i1 y)(ap:cG n (bL sc scope.names) G (.Name (aI p) p2) i2 al)(hE:aK n (bL sc scope.names) G s b):hL n sc G (.ListComp s [⟨.Name (aI d) p1,i1,[],0⟩,⟨.Name (aI p) p2,i2,[],0⟩] scope ar) λm H C=>y m H λz H=>z.length<=1000/\ja (λx ao H k=>al ((m.bh [d,p]).set d x) H λys H=>ys.length<=1000/\cV (λu H kY w=>b (((m.bh [d,p]).set d x).set p u) H kY) ys ao H k) z [] H λys H=>C (.lst ys) H:=by intro aa N r Z H m C V Qv O I0 F0 h fin;show Ey _ _ (IY (.ListComp s [⟨.Name (aI d) p1,i1,[],0⟩,⟨.Name (aI p) p2,i2,[],0⟩] scope ar) scope aa i1.pos (OD []) EF (Hb i1 aa) V) _ _ _;refine HU (use:=V) (g:=⟨.Name (aI d) p1,i1,[],0⟩) (gs:=[⟨.Name (aI p) p2,i2,[],0⟩]) rfl (f aa) (kc<|K.az F0) K.kind K.names<|EK (o O I0 F0 h) (λv ae J=>EK J (λit s2 L=>?_) λw w x=>x) λw w x=>x;obtain⟨Z2,H2,z,I,A,i,ab,rfl,P2,S,T,a,hp,ho,ac,hq⟩:=L.two F0;refine Fu<|KH K.dy (by intro u hy;exact(Ez hy).elim) (λh₁ ad j=>?_) K.kind;have b':=nM K I0 F0 P2 S T a hp ho (D:={cls:=.type "list",data:=.seq ([]:List EI).toArray}) rfl (an:=LX n.w s2.heap.objs.size [] [] 0) LX.keeps (λh e=>⟨e,.nil⟩) (t:=s2.toks+([]:List<|EJ×EI).length) ad λp x e=>(j.2 p<|EP<|E_ e).trans<|EV _ e;have l:=yR (scope:=scope) (ar:=ar) (i1:=i1) (i2:=i2) (p1:=p1) (p2:=p2) (R:=NM (EE n.prog n.w) N aQ V Qv (.ref s2.heap.objs.size) (s2.heap.push {cls:=.type "list",data:=.seq ([]:List EI).toArray}).objs.size) b'.c rfl b'.dL b'.dD O rfl (rm [d,p] m d<|by simp) (rm [d,p] m p<|by simp) aj (am _) (lJ (K.low d<|by simp)<|.inl ⟨ha,rfl⟩) (lJ (K.low p<|by simp)<|.inl ⟨hb,rfl⟩) (λw=>trivial) ap hE b'.st b'.j ac hq λs' Z' H' Y ys k af q=>jg.list fin af af.b b'.dD b'.dL b'.ne q;exact MZ l<|hH<|T.self b'.j l
end
section
variable{n:a_}{G:Nat}{N:GI}{r:EQ}{Z:EZ->Prop}{H:Hp}{C:V->Hp->Prop}{d p:EI}{x u:V}
theorem yT(I:Inv n r.heap Z H)(K:is.length<64)(q:∀js,hC is js->C (.lst<|js.map V.int) H)(hc:∀{R}{aD},(∀h' aO Y,(∀p D,r.heap.get? p=j' D->h'.get? p=j' D)->Np Y is->R Y {r with heap:=h',toks:=aO})->Ey (EE n.prog n.w) N.in1 (collect d) R aD r):Ey (EE n.prog n.w) N (Hg (.builtin "sorted") [d]) (Res n (RV n) r Z H C) aQ r:=by
 refine Mb kind_sorted plain_sorted entry_sorted (args_sorted1 _) ?_;dsimp only[Im.«sorted»];refine s0 (m:=checkCount "sorted" 1 1 _)<|tk ?_;refine s0<|hc λh' aO Y X hI=>?_;have aw:Y.length=is.length:=Pf hI;refine s0 (N4 ?_<|by rw[aw,Gp];exact aB 0x7690000002ac1510140 rfl K);have a:(h'.push {cls:=.type "list",data:=.seq Y.toArray}).get? h'.objs.size=j' (FF "list" Y.toArray 0):=ES _ rfl;refine s0<|E4<|Fs slot_list_sort ⟨_,a,rfl⟩ entry_list_sort (list_sort_tree (s:={r with heap:=h'.push {cls:=.type "list",data:=.seq Y.toArray},toks:=aO}) a hI (by rw[aw];exact K) λj js aa S w=>⟨_,rfl,?_⟩)<|args_list_sort _;refine tk ⟨_,rfl,?_⟩;refine ax (N5 (h:=h'.push {cls:=.type "list",data:=.seq Y.toArray}) (out:=j) a) λe he=>?_;have ac:∀p D,r.heap.get? p=j' D->(NN (h'.push {cls:=.type "list",data:=.seq Y.toArray}) h'.objs.size Y j).get? p=j' D:=λp D e=>by have J:=X p D e;have ad:=E_ J;rw[sortedHeap_old (EP ad)<|by rw[HG];exact Gn ad];exact bR _ _ J
 have hd:r.heap.get? h'.objs.size=.none:=by cases e:r.heap.get? h'.objs.size with|none=>rfl|some D=>exact aJ (E_<|X _ _ e)<|GN _
 exact jh (aO:=aO) (l:=e) EF I ac hd (Y:=j.toList) (z:=js.map V.int) he (ko aa)<|q js ⟨S,w⟩
theorem yU(hh:N.handled=kf)(I:Inv n r.heap Z H)(o:Rep n.w r.heap Z d x)(h:av ((bP H x).or<|(cU H x).map λf=>f.map (·.1)) λz=>av (ca z) λis=>is.length<64/\∀js,hC is js->C (.lst<|js.map V.int) H):Ey (EE n.prog n.w) N (Hg (.builtin "sorted") [d]) (Res n (RV n) r Z H C) aQ r:=by cases E:bP H x with|some z=>rw[E]at h;exact xU I o E h|none=>rw[E,Option.none_or]at h;cases hd:cU H x with|none=>rw[hd]at h;exact h.elim|some f=>rw[hd,I5,c6]at h;cases hi:ca<|f.map (·.1)with|none=>rw[hi]at h;exact h.elim|some is=>
    rw[hi,c6]at h;refine gB (ik I o hd) λQ ds l s g re X af=>?_;clear o;subst s;have az:∀(f:List<|V×V)(is:List Int),ca (f.map (·.1))=j' is->(f.all λe=>h5 e.1)=Do/\f.map (·.1)=is.map V.int:=by intro f;induction f with|nil=>intro is h;obtain rfl:=EA h;exact⟨rfl,rfl⟩|cons e o ih=>intro is h;obtain⟨k,v⟩:=e;induction k using Mine.Internal.V.casesOn with|int k=>refine aA (EY.mp h) λjs J s=>?_;clear h;subst s;refine aN (ih js J) λL b=>⟨Jv.trans<|L.trans rfl,aY (V.int k::·) b⟩|_=>exact aP h
    refine aN (az f is hi) λha D=>aA (n7 (al:=n.prog) g re X ha) λw hm y=>?_;have hl:w.length=is.length:=by have:=aY Hk<|y.trans D;simpa using this
    refine yT I h.1 h.2 λ{R aD}hR=>EK (kdu_collect (A:=N.in1) (R:=R) (kdl_dict (knd:=Gu n.prog n.w) (kvs:=w) (ep:=l) af) hh hm (by rw[hl,Gp];exact ED (Fa h.1) dd) λh' aO ao am j=>hR h' aO ao.toList am ?_) (λp p x=>x) λp p x=>x;have hv:∀(a:Nat)(v:EI),ao.toList[a]?=j' v->∃i t,is[a]?=j' i/\v=.int i t:=λa v e=>by refine bn (j.2 a v<|by simpa using e) λk x J L=>ax (Iz L) λt s=>?_;clear e L;subst s;refine dR k t ?_ rfl;have:=aY (λm:List V=>m[a]?)<|y.trans D;simp only[ET,J,I5]at this;refine aA (EY.mp this.symm) λi b h4=>?_;injection h4 with h4;rw[b,h4]
    have aw:ao.toList.length=is.length:=EU.trans<|j.1.trans hl;have q:∀(Y:List EI)(is:List Int),Y.length=is.length->(∀(a:Nat)(v:EI),Y[a]?=j' v->∃i t,is[a]?=j' i/\v=.int i t)->Np Y is:=by intro Y;induction Y with
     |nil=>intro is hl d;clear d;induction is using JL with|nil=>exact .nil|cons=>simp at hl
     |cons v Y ih=>intro is hl hv;induction is using JL with|nil=>simp at hl|cons i is=>refine bn (hv 0 v rfl) λS t J s=>?_;subst s;simp only[IT,OH]at J;subst J;exact .cons _ _<|ih is (Hw hl) λa v e=>by simpa using hv (a+1) v e
    exact q _ _ aw hv
end
abbrev Sc:=List<|EJ×Fv
noncomputable def jo:Ff->Bool|.Set _ _ _=>EF|_=>Do
noncomputable def dF(sc:Sc)(l:EJ):Bool:=decide<|sc.lookup l=j' .globalImplicit
noncomputable def lZ(l:EJ):Bool:=! l==("__debug__":EJ)
def n'(w:Nat)(l:EJ):Bool:=j7.any λj=>decide (j.1=w)&&decide (Et j.2=l)
def oa(c:Nat)(l:EJ):Bool:=j8.any λj=>decide (j.1=c)&&decide (Et j.2=l)
def l6(sc:Sc)(i:Nat):Bool:=decide (sc.lookup (aI i)=j' .local)||decide (sc.lookup (aI i)=j' .cell)
def jp(sc:Sc)(scope:L_)(vars:List Nat):Bool:=decide (scope.kind=.function)&&decide (scope.names.map (·.1)).Nodup&&scope.names.all (λx=>decide (x.2≠.cell)&&(!decide (x.2=.free)||decide (sc.lookup x.1=j' .cell))&&(!decide (x.2=.local)||decide (x.1=(".0":EJ))||vars.any λi=>decide<|x.1=aI i))&&vars.all λi=>decide<|i<bU.length
def ob(x:V)(H:Hp)(C:V->Hp->Prop):Prop:=av (bP H x) λz=>z.length<64/\((∃is,ca z=j' is/\∀js:List Int,js.Pairwise (·<·)->(∀a,a∈js↔a∈is)->C (.lst<|js.map V.int) H)\/(∀x∈z,∃(r:List Nat)(is:List Int),(∀c∈r,c<128)/\x=.tup (.str r::is.map V.int))/\∀ys,ys.Nodup->(∀u,u∈ys↔u∈z)->C (.lst ys) H)
def l7(n:a_):Prop:=∀{G}{N}{r}{Z}{H}{C}{d}{x},bQ G N->Inv n r.heap Z H->Rep n.w r.heap Z d x->ob x H C->Ey (EE n.prog n.w) N (Hg (.type "set") [d]) (λv ae=>Ey (EE n.prog n.w) N (Hg (.builtin "sorted") [v]) (Res n (RV n) r Z H C) aQ ae) aQ r
section
variable{G:Nat}
theorem yV(S:l7 n)(B:hK n)(X:sc.lookup (Et "sorted")=j' .globalImplicit)(ac:sc.lookup (Et "set")=j' .globalImplicit)(hs:a5 e=Do)(he:aK n sc G e W):aK n sc G (.Call (.Name (Et "sorted") a) [.Call (.Name (Et "set") b) [e] [] f] [] ar) λm H C=>W m H λx H=>ob x H C:=by intro aa N r Z H m C O I F h;refine Kw rfl<|kl (v:=.builtin "sorted") I F X (by decide+kernel) (by decide+kernel) (B "sorted" dd) (by kernel_rfl) ?_;refine kn (args:=[.Call (.Name (Et "set") b) [e] [] f]) rfl ?_;rw[fR rfl,fS];refine HJ<|Kw rfl<|kl (v:=.type "set") I F ac (by decide+kernel) (by decide+kernel) (B "set" dd) (by kernel_rfl) ?_;refine lW (args:=[e]) (by simp[hs]) ?_;rw[fR hs,fS];refine HJ<|bB he O I F h λae as aq d x P I1 F1 o k=>Ht ?_;refine EK (S O I1 o k) (λv s2 L=>Ht ?_) λp p x=>x;exact EK L (λp p R=>R.up P) λp p x=>x
theorem kt(h:jp sc scope vars=Do):CompOk sc scope vars:=by
 simp only[jp,Ft,decide_eq_true_eq,FE]at h;refine aN h λs h4=>aN s λz2 b=>aN z2 λJ L=>⟨J,L,λx E=>(b x E).1.1,λx E hf=>?_,λx E hl=>?_,h4⟩;.have:=(b x E).1.2;simpa[hf]using this
 .have:=(b x E).2;simp only[hl,decide_true,Bool.not_true,Bool.false_or,KL,decide_eq_true_eq,Km]at this;exact this
theorem jq(h:jo e=Do)(aa:IC)(x:EI):Gw e aa x=pure x:=by cases e<;>first|rfl|exact EX h
theorem yW(h:n' w l=Do):∃r,(w,r)∈j7/\l=Et r:=by simp only[n',Km,Ft,decide_eq_true_eq]at h;refine a4 h λs hm z2 z3=>?_;clear h;rcases s with⟨g,r⟩;subst z2;subst z3;exact bm r hm rfl
theorem yX(h:oa w l=Do):∃r,(w,r)∈j8/\l=Et r:=by simp only[oa,Km,Ft,decide_eq_true_eq]at h;refine a4 h λs hm z2 z3=>?_;clear h;rcases s with⟨g,r⟩;subst z2;subst z3;exact bm r hm rfl
theorem r2(h:l6 sc i=Do):sc.lookup (aI i)=j' .local\/sc.lookup (aI i)=j' .cell:=by simpa[l6]using h
theorem gL(h:dF sc l=Do):sc.lookup l=j' .globalImplicit:=of_decide_eq_true h
theorem r3(h:lZ l=Do):(l==("__debug__":EJ))=false:=by simpa[lZ]using h
end
structure Std(C:a_)(d:Nat)(cw:CW):Prop where
 T:Facts C
 B:hK C
 S:l7 C
 cw:km C d cw
 far:∃t,C.mg (PySem.Str.ofString "_law_far")=some (.int 1000000 t)
section
variable{ab:CW}
theorem gM{K:V->Hp->(V->Hp->Prop)->Prop}(Q:Std n G ab)(hn:l∈jk)(X:dF sc (Et l)=Do)(hd:(Et l==("__debug__":EJ))=EF)(E:Et l≠"__name__")(hb:JO (Et l)=j' v)(hv:(∃id,v=.builtin id)\/∃T,v=.type T)(hs:a5 e=Do)(he:aK n sc G e W)(k:∀{N}{r}{Z}{H}{C}{d}{x},bQ G N->Inv n r.heap Z H->Rep n.w r.heap Z d x->K x H C->Ey (EE n.prog n.w) N (Hg v [d]) (Res n (RV n) r Z H C) aQ r):aK n sc G (.Call (.Name (Et l) a) [e] [] ar) λm H C=>W m H λx H=>K x H C:=xP Q.B hn (gL X) hd E hb hv hs he k
end
inductive Opt(P:Prop)where|no|yes(h:P)
noncomputable def Opt.ok:Opt P->Bool|.no=>EF|.yes _=>Do
theorem Opt.get{P:Prop}{D:Opt P}(h:D.ok=Do):P:=by induction D with|no=>cases h|yes j=>exact j
noncomputable def Opt.bind(D:Opt P)(k:P->Opt C):Opt C:=match D with|.no=>.no|.yes h=>k h
noncomputable def Opt.map(D:Opt P)(k:P->C):Opt C:=D.bind λh=>.yes<|k h
noncomputable def Opt.aw(D:Opt P)(aj:Opt C)(k:P->C->R):Opt R:=D.bind λh=>aj.map<|k h
noncomputable def Opt.or(D aj:Opt P):Opt P:=match D with|.no=>aj|.yes h=>.yes h
noncomputable def gp(j:Prop)[i:Decidable j](k:j->Opt P):Opt P:=match i with|.isTrue h=>k h|.isFalse _=>.no
noncomputable def cB(r:EJ){l:EJ}{P:EJ->Prop}(k:Opt<|P r):Opt<|P l:=gp (r=l) λh=>k.map λj=>h▸j
section
variable{P:Ff->Prop}
noncomputable def yY(e:Ff)(k:∀c l j,Opt<|P<|.Constant c l j):Opt<|P e:=match e with|.Constant c l j=>k c l j|_=>.no
noncomputable def iB(e:Ff)(k:∀l j,Opt<|P<|.Name l j):Opt<|P e:=match e with|.Name l j=>k l j|_=>.no
noncomputable def fU(r:EJ)(e:Ff)(k:∀j,Opt<|P<|.Name r j):Opt<|P e:=iB e λd j=>cB r (P:=λl=>P<|.Name l j)<|k j
noncomputable def oc(e:Ff)(k:∀D l j,Opt<|P<|.Attribute D l j):Opt<|P e:=match e with|.Attribute D l j=>k D l j|_=>.no
noncomputable def jr(e:Ff)(k:∀w as j,Opt<|P<|.Call w as [] j):Opt<|P e:=match e with|.Call w as [] j=>k w as j|_=>.no
noncomputable def ku(e:Ff)(k:∀D i j,Opt<|P<|.Subscript D i j):Opt<|P e:=match e with|.Subscript D i j=>k D i j|_=>.no
noncomputable def yZ(e:Ff)(k:∀d D p j,Opt<|P<|.BinOp d D p j):Opt<|P e:=match e with|.BinOp d D p j=>k d D p j|_=>.no
noncomputable def y0(e:Ff)(k:∀d j,Opt<|P<|.UnaryOp .USub d j):Opt<|P e:=match e with|.UnaryOp .USub d j=>k d j|_=>.no
noncomputable def r4(e:Ff)(k:∀d j,Opt<|P<|.UnaryOp .Not d j):Opt<|P e:=match e with|.UnaryOp .Not d j=>k d j|_=>.no
noncomputable def y1(e:Ff)(k:∀t d p j,Opt<|P<|.IfExp t d p j):Opt<|P e:=match e with|.IfExp t d p j=>k t d p j|_=>.no
noncomputable def r5(e:Ff)(k:∀D f j,Opt<|P<|.BoolOp D f j):Opt<|P e:=match e with|.BoolOp D f j=>k D f j|_=>.no
noncomputable def od(e:Ff)(k:∀d os cs j,Opt<|P<|.Compare d os cs j):Opt<|P e:=match e with|.Compare d os cs j=>k d os cs j|_=>.no
noncomputable def jt(e:Ff)(k:∀f c j,Opt<|P<|.Tuple f c j):Opt<|P e:=match e with|.Tuple f c j=>k f c j|_=>.no
noncomputable def r6(e:Ff)(k:∀f j,Opt<|P<|.List f j):Opt<|P e:=match e with|.List f j=>k f j|_=>.no
noncomputable def y2(e:Ff)(k:∀j,Opt<|P<|.Dict [] [] j):Opt<|P e:=match e with|.Dict [] [] j=>k j|_=>.no
noncomputable def r7(e:Ff)(k:∀x cB r j,Opt<|P<|.ListComp x cB r j):Opt<|P e:=match e with|.ListComp x cB r j=>k x cB r j|_=>.no
noncomputable def r8(e:Ff)(k:∀x u cB r j,Opt<|P<|.DictComp x u cB r j):Opt<|P e:=match e with|.DictComp x u cB r j=>k x u cB r j|_=>.no
noncomputable def y3(e:Ff)(k:∀y i q j,Opt<|P<|.Slice (j'<|.Constant (.int y) i q) kf kf j):Opt<|P e:=match e with|.Slice (j'<|.Constant (.int y) i q) kf kf j=>k y i q j|_=>.no
noncomputable def y4(e:Ff)(k:∀x j,Opt<|P<|.Slice kf (j' x) kf j):Opt<|P e:=match e with|.Slice kf (j' x) kf j=>k x j|_=>.no
noncomputable def y5(e:Ff)(k:∀i q o j,Opt<|P<|.Slice kf kf (j'<|.UnaryOp .USub (.Constant (.int 1) i q) o) j):Opt<|P e:=match e with|.Slice kf kf (j'<|.UnaryOp .USub (.Constant (.int 1) i q) o) j=>k i q o j|_=>.no
end
section
variable{P:List α->Prop}
noncomputable def fB(z:List α)(k:Opt<|P []):Opt<|P z:=match z with|[]=>k|_=>.no
noncomputable def lc(z:List α)(k:∀x o,Opt<|P<|x::o):Opt<|P z:=match z with|x::o=>k x o|_=>.no
noncomputable def l1(z:List α)(k:∀x,Opt<|P [x]):Opt<|P z:=lc z λx o=>fB (P:=λo=>P<|x::o) o<|k x
noncomputable def g8(z:List α)(k:∀x u,Opt<|P [x,u]):Opt<|P z:=lc z λx o=>l1 (P:=λo=>P<|x::o) o<|k x
end
noncomputable def kw{P:LH->Prop}(g:LH)(k:∀t i is,Opt<|P ⟨t,i,is,0⟩):Opt<|P g:=match g with|⟨t,i,is,0⟩=>k t i is|_=>.no
section
variable{P:Ff->Prop}
def gj(r:EJ)(e:Ff)(k:∀D q as j,eJ D=Do->(q.endLine==j.line)=Do->Opt (P<|.Call (.Attribute D r q) as [] j)):Opt<|P e:=jr e λw as j=>oc (P:=λw=>P<|.Call w as [] j) w λD d q=>cB r (P:=λl=>P<|.Call (.Attribute D l q) as [] j)<|gp _ λh=>gp _ λh'=>k D q as j h h'
def e3(r:EJ)(e:Ff)(k:∀q d j,a5 d=Do->Opt (P<|.Call (.Name r q) [d] [] j)):Opt<|P e:=jr e λw as j=>fU r (P:=λw=>P<|.Call w as [] j) w λq=>l1 (P:=λas=>P<|.Call (.Name r q) as [] j) as λd=>gp _ λh=>k q d j h
end
structure Ck(C:a_)(d:Nat)(cw:CW)where X(sc:Sc)(x:an)(e:Expr):Opt (aK C sc d e<|am tab cw x)T(sc:Sc)(t:T)(e:Expr):Opt (dE C sc d e<|bS tab cw t)L(sc:Sc)(x:XL)(es:List Expr):Opt (fp C sc d es<|cW tab cw x)TL(sc:Sc)(b:Bool)(t:TL)(es:List Expr):Opt (hJ C sc d b es<|fM tab cw b t)O(sc:Sc)(b:Bool)(t:XL)(es:List Expr):Opt (g7 C sc d b es<|eY tab cw b t)GL(sc:Sc)(la:Bool)(t:e_)(es:List Expr):Opt<|hF C (if la then LA else FA) sc d es (gh tab cw t)/\es.length=t.len
noncomputable def Ck.nil(n:a_)(G:Nat)(ab:CW):Ck n G ab:=⟨λd d d=>.no,λd d d=>.no,λd d d=>.no,λd d d d=>.no,λd d d d=>.no,λd d d d=>.no⟩
def oe(sc:Sc)(i:Nat){P:Prop}(k:sc.lookup (aI i)=j' .local\/sc.lookup (aI i)=j' .cell->Opt P):Opt P:=gp (l6 sc i=Do) λh=>k<|r2 h
section
variable{ab:CW}(Q:Std n G ab)(K:Ck n G ab)
def kG(sc:Sc)(a:Bool)(t:Tg)(e:Ff):Opt<|cR n (if a then LA else FA) sc G e<|bY tab ab t:=match t with
 |.v i=>fU (P:=λe=>cR n (if a then LA else FA) sc G e<|bY tab ab<|.v i) (aI i) e λj=>gp (i<bU.length) λh=>match a with|true=>gp (sc.lookup (aI i)=j' .local) λh'=>.yes<|lJ h<|.inl ⟨h',rfl⟩|false=>oe sc i λh'=>.yes<|lJ h<|.inr ⟨h',rfl⟩
 |.sub D i=>ku (P:=λe=>cR n (if a then LA else FA) sc G e<|bY tab ab<|.sub D i) e λd p j=>(K.X sc D d).aw (K.X sc i p) λh h'=>xH h h'|.attr D l=>oc (P:=λe=>cR n (if a then LA else FA) sc G e<|bY tab ab<|.attr D l) e λd y j=>cB (aI l) (P:=λy=>cR n (if a then LA else FA) sc G (.Attribute d y j)<|bY tab ab<|.attr D l)<|gp (l∈eE) λh=>(K.X sc D d).map λh'=>xq Q.T h h'|.t ts=>jt (P:=λe=>cR n (if a then LA else FA) sc G e<|bY tab ab<|.t ts) e λf c j=>gp (f.all a5=Do) λh=>(K.GL sc a ts f).map λh'=>by intro aa N r Z H m v x C O I F o hq;refine aN h' λhh he=>wc (λaa d h=>by induction a;exact h;exact .inl h) h @hh O I F o ?_;rw[he];clear o;cases x<;>exact hq
def kI(sc:Sc)(t:It)(o e:Ff):Opt<|cG n sc G o e<|cO tab ab t:=match t with|.pl x=>iB (P:=λo=>cG n sc G o e<|cO tab ab<|.pl x) o λl j=>(K.X sc x e).map λh=>yp h|.range x=>iB (P:=λo=>cG n sc G o e<|cO tab ab<|.range x) o λl j=>e3 (P:=λe=>cG n sc G (.Name l j) e<|cO tab ab<|.range x) _ e λq d a r=>gp (dF sc (Et "range")=Do) λh=>(K.X sc x d).map λh'=>yq Q.B (gL h) r h'|.enum x=>jt (P:=λo=>cG n sc G o e<|cO tab ab<|.enum x) o λf c j=>e3 (P:=λe=>cG n sc G (.Tuple f c j) e<|cO tab ab<|.enum x) _ e λq d a r=>gp (dF sc (Et "enumerate")=Do) λh=>(K.X sc x d).map λh'=>yr Q.B (gL h) r h'|.items x=>jt (P:=λo=>cG n sc G o e<|cO tab ab<|.items x) o λf c j=>gj (P:=λe=>cG n sc G (.Tuple f c j) e<|cO tab ab<|.items x) (Et "items") e λD q as a h h'=>fB (P:=λas=>cG n sc G (.Tuple f c j) (.Call (.Attribute D (Et "items") q) as [] a)<|cO tab ab<|.items x) as<|(K.X sc x D).map λL=>yu h h' L|.values x=>iB (P:=λo=>cG n sc G o e<|cO tab ab<|.values x) o λl j=>gj (P:=λe=>cG n sc G (.Name l j) e<|cO tab ab<|.values x) (Et "values") e λD q as a h h'=>fB (P:=λas=>cG n sc G (.Name l j) (.Call (.Attribute D (Et "values") q) as [] a)<|cO tab ab<|.values x) as<|(K.X sc x D).map λL=>yt h h' L
noncomputable def kC(sc:Sc)(t:T)(f:List Ff):Opt<|je n sc G f<|bS tab ab t:=match t,f with|.c0,[]=>.yes rg|t,[e]=>(K.T sc t e).map λh=>wk h|_,_=>.no
structure Comp(C:a_)(sc:Sc)(d:Nat)(e:Expr)(W:WV):Prop where
 core:hL C sc d e W
 eval:∀env,eval e env=kq e env Option.none
 use:∀env use,evalThenUse e env use=do let _<-kq e env<|some use
def kM(sc:Sc)(x:an)(e:Ff):Opt<|Comp n sc G e<|am tab ab x:=match x with|.comp x t it c=>r7 (P:=λe=>Comp n sc G e<|am tab ab<|.comp x t it c) e λq cB r j=>l1 (P:=λcB=>Comp n sc G (.ListComp q cB r j)<|am tab ab<|.comp x t it c) cB λg=>kw (P:=λg=>Comp n sc G (.ListComp q [g] r j)<|am tab ab<|.comp x t it c) g λo i is=>gp (jp sc r t.vars=Do) λJ=>gp (jo i=Do) λL=>(kI Q K sc it o i).bind λb=>(kG Q K (bL sc r.names) Do t o).bind λh4=>(kC K (bL sc r.names) c is).aw (K.X (bL sc r.names) x q) λh5 h6=>⟨yg (kt J) (jq L) b h4 h5 h6,λw=>rfl,λw w=>rfl⟩|.bx x (.v d) I (.v p) M=>r7 (P:=λe=>Comp n sc G e<|am tab ab<|.bx x (.v d) I (.v p) M) e λq cB r j=>g8 (P:=λcB=>Comp n sc G (.ListComp q cB r j)<|am tab ab<|.bx x (.v d) I (.v p) M) cB λg g'=>kw (P:=λg=>Comp n sc G (.ListComp q [g,g'] r j)<|am tab ab<|.bx x (.v d) I (.v p) M) g λo i is=>kw (P:=λg'=>Comp n sc G (.ListComp q [⟨o,i,is,0⟩,g'] r j)<|am tab ab<|.bx x (.v d) I (.v p) M) g' λs S u=>fB (P:=λis=>Comp n sc G (.ListComp q [⟨o,i,is,0⟩,⟨s,S,u,0⟩] r j)<|am tab ab<|.bx x (.v d) I (.v p) M) is<|fB (P:=λu=>Comp n sc G (.ListComp q [⟨o,i,[],0⟩,⟨s,S,u,0⟩] r j)<|am tab ab<|.bx x (.v d) I (.v p) M) u<|fU (aI d) (P:=λo=>Comp n sc G (.ListComp q [⟨o,i,[],0⟩,⟨s,S,[],0⟩] r j)<|am tab ab<|.bx x (.v d) I (.v p) M) o λp1=>fU (aI p) (P:=λs=>Comp n sc G (.ListComp q [⟨.Name (aI d) p1,i,[],0⟩,⟨s,S,[],0⟩] r j)<|am tab ab<|.bx x (.v d) I (.v p) M) s λp2=>gp (d≠p) λJ=>gp (jp sc r [d,p]=Do) λL=>gp (jo i=Do) λb=>gp (jo S=Do) λh4=>gp ((bL sc r.names).lookup (aI d)=j' .local) λh5=>gp ((bL sc r.names).lookup (aI p)=j' .local) λh6=>(kI Q K sc I _ i).bind λh7=>(kI Q K (bL sc r.names) M _ S).aw (K.X (bL sc r.names) x q) λE af=>⟨yS J (kt L) (jq b) (jq h4) h5 h6 h7 E af,λw=>rfl,λw w=>rfl⟩|.b8 p m f t it=>r8 (P:=λe=>Comp n sc G e<|am tab ab<|.b8 p m f t it) e λke ve cB r j=>l1 (P:=λcB=>Comp n sc G (.DictComp ke ve cB r j)<|am tab ab<|.b8 p m f t it) cB λg=>kw (P:=λg=>Comp n sc G (.DictComp ke ve [g] r j)<|am tab ab<|.b8 p m f t it) g λo i is=>fB (P:=λis=>Comp n sc G (.DictComp ke ve [⟨o,i,is,0⟩] r j)<|am tab ab<|.b8 p m f t it) is<|gp (jp sc r t.vars=Do) λJ=>gp (jo i=Do) λL=>(kI Q K sc it o i).bind λb=>(kG Q K (bL sc r.names) Do t o).bind λh4=>(K.X (bL sc r.names) m ke).aw (K.X (bL sc r.names) f ve) λh5 h6=>⟨by induction p;exact yh (kt J) (jq L) b h4 h5 h6;exact yi (kt J) (jq L) b h4 h5 h6,λw=>rfl,λw w=>rfl⟩|.au m f t a=>r8 (P:=λe=>Comp n sc G e<|am tab ab<|.au m f t a) e λke ve cB r j=>l1 (P:=λcB=>Comp n sc G (.DictComp ke ve cB r j)<|am tab ab<|.au m f t a) cB λg=>kw (P:=λg=>Comp n sc G (.DictComp ke ve [g] r j)<|am tab ab<|.au m f t a) g λo i is=>fB (P:=λis=>Comp n sc G (.DictComp ke ve [⟨o,i,is,0⟩] r j)<|am tab ab<|.au m f t a) is<|iB (P:=λo=>Comp n sc G (.DictComp ke ve [⟨o,i,[],0⟩] r j)<|am tab ab<|.au m f t a) o λl p1=>fU (aI a) (P:=λi=>Comp n sc G (.DictComp ke ve [⟨.Name l p1,i,[],0⟩] r j)<|am tab ab<|.au m f t a) i λp2=>oe sc a λJ=>gp (jp sc r t.vars=Do) λL=>(kG Q K (bL sc r.names) Do t<|.Name l p1).bind λb=>(K.X (bL sc r.names) m ke).aw (K.X (bL sc r.names) f ve) λh4 h5=>⟨yj J (kt L) b h4 h5,λw=>rfl,λw w=>rfl⟩|_=>.no
def kX(sc:Sc)(x:an)(e:Ff):Opt<|aK n sc G e<|am tab ab x:=match x with|.k c=>yY (P:=λe=>aK n sc G e<|am tab ab<|.k c) e λk a a=>gp (qY c=j' k) λh=>.yes<|vC h|.v i=>fU (P:=λe=>aK n sc G e<|am tab ab<|.v i) (aI i) e λa=>oe sc i λh=>.yes<|q0 h|.g i y=>fU (P:=λe=>aK n sc G e<|am tab ab<|.g i y) (aI i) e λa=>gp (dF sc (aI i)=Do) λh=>gp (bU.getD i ""="_law_far"/\y=1000000) λh'=>.yes<|by obtain⟨h',rfl⟩:=h';exact xo (gL h)<|by unfold aI;exact h'▸Q.far|.call w as=>jr (P:=λe=>aK n sc G e<|am tab ab<|.call w as) e λE f j=>iB (P:=λE=>aK n sc G (.Call E f [] j)<|am tab ab<|.call w as) E λl q=>gp (n' w l=Do/\w<54) λh=>gp (dF sc l=Do) λJ=>gp (lZ l=Do) λL=>gp (f.all a5=Do) λb=>(K.L sc as f).map λh4=>by refine aA (yW h.1) λr hm s=>?_;subst s;exact xr Q.T Q.cw hm h.2 (gL J) (r3 L) b h4|.new c as=>jr (P:=λe=>aK n sc G e<|am tab ab<|.new c as) e λE f j=>iB (P:=λE=>aK n sc G (.Call E f [] j)<|am tab ab<|.new c as) E λl q=>gp (oa c l=Do/\c<6) λh=>gp (dF sc l=Do) λJ=>gp (lZ l=Do) λL=>gp (f.all a5=Do) λb=>(K.L sc as f).map λh4=>by refine aA (yX h.1) λr hm s=>?_;subst s;exact xz Q.T Q.cw hm h.2 (gL J) (r3 L) b h4|.ai D y as=>gj (P:=λe=>aK n sc G e<|am tab ab<|.ai D y as) (aI y) e λd q f j h h'=>gp (y<bU.length) λJ=>gp (f.all a5=Do) λL=>gp (f.length<20) λb=>(K.X sc D d).aw (K.L sc as f) λh4 h5=>xu Q.T Q.cw J h L b h' h4 h5|.attr D l=>oc (P:=λe=>aK n sc G e<|am tab ab<|.attr D l) e λd y j=>cB (aI l) (P:=λy=>aK n sc G (.Attribute d y j)<|am tab ab<|.attr D l)<|gp (l∈eE) λh=>gp (eJ d=Do) λJ=>(K.X sc D d).map λL=>xp Q.T h J L|.len x=>e3 (P:=λe=>aK n sc G e<|am tab ab<|.len x) (Et "len") e λq d j r=>gp (dF sc (Et "len")=Do) λh=>(K.X sc x d).map λh'=>gM (K:=λv H C=>rO v H C) Q dd h (by decide+kernel) (by decide+kernel) (v:=.builtin "len") (by kernel_rfl) (.inl ⟨_,rfl⟩) r h' λO I o k=>xQ I o k|.sort x=>e3 (P:=λe=>aK n sc G e<|am tab ab<|.sort x) (Et "sorted") e λq d j r=>gp (dF sc (Et "sorted")=Do) λh=>(K.X sc x d).map λh'=>gM (K:=λv H C=>av ((bP H v).or<|(cU H v).map λf=>f.map (·.1)) λz=>av (ca z) λis=>is.length<64/\∀js,hC is js->C (.lst<|js.map V.int) H) Q dd h (by decide+kernel) (by decide+kernel) (v:=.builtin "sorted") (by kernel_rfl) (.inl ⟨_,rfl⟩) r h' λO I o k=>yU O.2.2 I o k|.sset x=>e3 (P:=λe=>aK n sc G e<|am tab ab<|.sset x) (Et "sorted") e λq e2 j a=>e3 (P:=λe2=>aK n sc G (.Call (.Name (Et "sorted") q) [e2] [] j)<|am tab ab<|.sset x) (Et "set") e2 λq2 d p2 r=>gp (dF sc (Et "sorted")=Do) λh=>gp (dF sc (Et "set")=Do) λL=>(K.X sc x d).map λb=>yV Q.S Q.B (gL h) (gL L) r b|.cg x=>e3 (P:=λe=>aK n sc G e<|am tab ab<|.cg x) (Et "tuple") e λq d j r=>gp (dF sc (Et "tuple")=Do) λh=>(K.X sc x d).map λh'=>gM (K:=λv H C=>av (bT H v) λz=>z.length<=aR/\C (.tup z) H) Q dd h (by decide+kernel) (by decide+kernel) (v:=.type "tuple") (by kernel_rfl) (.inr ⟨_,rfl⟩) r h' λO I o k=>xR I o k|.cj EF x=>e3 (P:=λe=>aK n sc G e<|am tab ab<|.cj EF x) (Et "list") e λq d j r=>gp (dF sc (Et "list")=Do) λh=>(K.X sc x d).map λh'=>gM (K:=λv H C=>av (bT H v) λz=>z.length<=aR/\C (.lst z) H) Q dd h (by decide+kernel) (by decide+kernel) (v:=.type "list") (by kernel_rfl) (.inr ⟨_,rfl⟩) r h' λO I o k=>xS I o k|.cj Do x=>e3 (P:=λe=>aK n sc G e<|am tab ab<|.cj Do x) (Et "list") e λq d j r=>gp (dF sc (Et "list")=Do) λh=>(K.X sc x d).map λh'=>gM (K:=λv H C=>av (bT H v) λz=>z.length<=aR/\∀d,H d=kf->C (.ref d) (H.set d<|.list z)) Q dd h (by decide+kernel) (by decide+kernel) (v:=.type "list") (by kernel_rfl) (.inr ⟨_,rfl⟩) r h' λO I o k=>xT I o k|.mm EF<|.cons x .nil=>e3 (P:=λe=>aK n sc G e<|am tab ab<|.mm EF<|.cons x .nil) (Et "min") e λq d j r=>gp (dF sc (Et "min")=Do) λh=>(K.X sc x d).map λh'=>gM (K:=λv H C=>eD EF H [v] λv=>C v H) Q dd h (by decide+kernel) (by decide+kernel) (v:=.builtin "min") (by kernel_rfl) (.inl ⟨_,rfl⟩) r h' λO I o k=>xW O.2.2 I o k|.mm Do<|.cons x .nil=>e3 (P:=λe=>aK n sc G e<|am tab ab<|.mm Do<|.cons x .nil) (Et "max") e λq d j r=>gp (dF sc (Et "max")=Do) λh=>(K.X sc x d).map λh'=>gM (K:=λv H C=>eD Do H [v] λv=>C v H) Q dd h (by decide+kernel) (by decide+kernel) (v:=.builtin "max") (by kernel_rfl) (.inl ⟨_,rfl⟩) r h' λO I o k=>xV O.2.2 I o k|.mm EF<|.cons x<|.cons u .nil=>jr (P:=λe=>aK n sc G e<|am tab ab<|.mm EF<|.cons x<|.cons u .nil) e λw as j=>fU (P:=λw=>aK n sc G (.Call w as [] j)<|am tab ab<|.mm EF<|.cons x<|.cons u .nil) (Et "min") w λq=>g8 (P:=λas=>aK n sc G (.Call (.Name (Et "min") q) as [] j)<|am tab ab<|.mm EF<|.cons x<|.cons u .nil) as λd p=>gp (a5 d=Do) λr=>gp (a5 p=Do) λs'=>gp (dF sc (Et "min")=Do) λh=>(K.X sc x d).aw (K.X sc u p) λJ L=>rN (K:=λv aj H C=>eD EF H [v,aj] λv=>C v H) Q.B dd (gL h) (by decide+kernel) (by decide+kernel) (v:=.builtin "min") (by kernel_rfl) (.inl ⟨_,rfl⟩) r s' J L λO I o r' k=>rR EF O.2.2 I o r' k|.mm Do<|.cons x<|.cons u .nil=>jr (P:=λe=>aK n sc G e<|am tab ab<|.mm Do<|.cons x<|.cons u .nil) e λw as j=>fU (P:=λw=>aK n sc G (.Call w as [] j)<|am tab ab<|.mm Do<|.cons x<|.cons u .nil) (Et "max") w λq=>g8 (P:=λas=>aK n sc G (.Call (.Name (Et "max") q) as [] j)<|am tab ab<|.mm Do<|.cons x<|.cons u .nil) as λd p=>gp (a5 d=Do) λr=>gp (a5 p=Do) λs'=>gp (dF sc (Et "max")=Do) λh=>(K.X sc x d).aw (K.X sc u p) λJ L=>rN (K:=λv aj H C=>eD Do H [v,aj] λv=>C v H) Q.B dd (gL h) (by decide+kernel) (by decide+kernel) (v:=.builtin "max") (by kernel_rfl) (.inl ⟨_,rfl⟩) r s' J L λO I o r' k=>rR Do O.2.2 I o r' k|.sum x=>e3 (P:=λe=>aK n sc G e<|am tab ab<|.sum x) (Et "sum") e λq d j r=>gp (dF sc (Et "sum")=Do) λh=>(K.X sc x d).map λh'=>gM (K:=λv H C=>av (bP H v) λz=>av (ca z) λis=>is.length<=1000/\(∀i∈is,0<=i/\i<=1000000)/\C (.int is.sum) H) Q dd h (by decide+kernel) (by decide+kernel) (v:=.builtin "sum") (by kernel_rfl) (.inl ⟨_,rfl⟩) r h' λO I o k=>xY O.2.2 I o k|.toInt x=>e3 (P:=λe=>aK n sc G e<|am tab ab<|.toInt x) (Et "int") e λq d j r=>gp (dF sc (Et "int")=Do) λh=>(K.X sc x d).map λh'=>gM (K:=λv H C=>av (h6 v) λr=>av (gG r) λi=>C (.int i) H) Q dd h (by decide+kernel) (by decide+kernel) (v:=.type "int") (by kernel_rfl) (.inr ⟨_,rfl⟩) r h' λO I o k=>xZ I o k|.toStr x=>e3 (P:=λe=>aK n sc G e<|am tab ab<|.toStr x) (Et "str") e λq d j r=>gp (dF sc (Et "str")=Do) λh=>(K.X sc x d).map λh'=>gM (K:=λv H C=>av (bN v) λi=>0<=i/\i<10/\C (.str [48+i.toNat]) H) Q dd h (by decide+kernel) (by decide+kernel) (v:=.type "str") (by kernel_rfl) (.inr ⟨_,rfl⟩) r h' λO I o k=>x0 I o k|.append D x=>gj (P:=λe=>aK n sc G e<|am tab ab<|.append D x) (Et "append") e λd q as j h h'=>l1 (P:=λas=>aK n sc G (.Call (.Attribute d (Et "append") q) as [] j)<|am tab ab<|.append D x) as λp=>gp (a5 p=Do) λr=>(K.X sc D d).aw (K.X sc x p) λL b=>x3 h r h' L b|.extend D x=>gj (P:=λe=>aK n sc G e<|am tab ab<|.extend D x) (Et "extend") e λd q as j h h'=>l1 (P:=λas=>aK n sc G (.Call (.Attribute d (Et "extend") q) as [] j)<|am tab ab<|.extend D x) as λp=>gp (a5 p=Do) λr=>(K.X sc D d).aw (K.X sc x p) λL b=>x4 h r h' L b|.pop D=>gj (P:=λe=>aK n sc G e<|am tab ab<|.pop D) (Et "pop") e λd q as j h h'=>fB (P:=λas=>aK n sc G (.Call (.Attribute d (Et "pop") q) as [] j)<|am tab ab<|.pop D) as<|(K.X sc D d).map λL=>x5 h h' L|.d9 D x=>gj (P:=λe=>aK n sc G e<|am tab ab<|.d9 D x) (Et "pop") e λd q as j h h'=>l1 (P:=λas=>aK n sc G (.Call (.Attribute d (Et "pop") q) as [] j)<|am tab ab<|.d9 D x) as λp=>gp (a5 p=Do) λr=>(K.X sc D d).aw (K.X sc x p) λL b=>ya h r h' L b|.dget D x=>gj (P:=λe=>aK n sc G e<|am tab ab<|.dget D x) (Et "get") e λd q as j h h'=>l1 (P:=λas=>aK n sc G (.Call (.Attribute d (Et "get") q) as [] j)<|am tab ab<|.dget D x) as λp=>gp (a5 p=Do) λr=>(K.X sc D d).aw (K.X sc x p) λL b=>x8 h r h' L b|.dm D x u=>gj (P:=λe=>aK n sc G e<|am tab ab<|.dm D x u) (Et "get") e λd q as j h h'=>g8 (P:=λas=>aK n sc G (.Call (.Attribute d (Et "get") q) as [] j)<|am tab ab<|.dm D x u) as λp c=>gp (a5 p=Do) λr=>gp (a5 c=Do) λs'=>(K.X sc D d).bind λL=>(K.X sc x p).aw (K.X sc u c) λb h4=>x9 h r s' h' L b h4|.dg D x u=>gj (P:=λe=>aK n sc G e<|am tab ab<|.dg D x u) (Et "setdefault") e λd q as j h h'=>g8 (P:=λas=>aK n sc G (.Call (.Attribute d (Et "setdefault") q) as [] j)<|am tab ab<|.dg D x u) as λp c=>gp (a5 p=Do) λr=>gp (a5 c=Do) λs'=>(K.X sc D d).bind λL=>(K.X sc x p).aw (K.X sc u c) λb h4=>x' h r s' h' L b h4|.isspace D=>gj (P:=λe=>aK n sc G e<|am tab ab<|.isspace D) (Et "isspace") e λd q as j h h'=>fB (P:=λas=>aK n sc G (.Call (.Attribute d (Et "isspace") q) as [] j)<|am tab ab<|.isspace D) as<|(K.X sc D d).map λL=>yd h h' L|.sub D i=>ku (P:=λe=>aK n sc G e<|am tab ab<|.sub D i) e λd p a=>(K.X sc D d).aw (K.X sc i p) λh h'=>xG h h'|.d7 D l=>ku (P:=λe=>aK n sc G e<|am tab ab<|.d7 D l) e λd p j=>y3 (P:=λp=>aK n sc G (.Subscript d p j)<|am tab ab<|.d7 D l) p λy a a a=>gp (y=(l:Int)) λh=>(K.X sc D d).map λh'=>by subst h;exact xI h'|.fz D x=>ku (P:=λe=>aK n sc G e<|am tab ab<|.fz D x) e λd p j=>y4 (P:=λp=>aK n sc G (.Subscript d p j)<|am tab ab<|.fz D x) p λaj a=>(K.X sc D d).aw (K.X sc x aj) λh h'=>xJ h h'|.fj D=>ku (P:=λe=>aK n sc G e<|am tab ab<|.fj D) e λd p j=>y5 (P:=λp=>aK n sc G (.Subscript d p j)<|am tab ab<|.fj D) p λa a a a=>(K.X sc D d).map λh=>xO h|.bin A x u=>yZ (P:=λe=>aK n sc G e<|am tab ab<|.bin A x u) e λd D p a=>gp (D=nS A) λh=>(K.X sc x d).aw (K.X sc u p) λJ L=>by subst h;exact wY J L|.neg x=>y0 (P:=λe=>aK n sc G e<|am tab ab<|.neg x) e λd a=>(K.X sc x d).map λh=>wZ h|.ite t x u=>y1 (P:=λe=>aK n sc G e<|am tab ab<|.ite t x u) e λaj d p a=>(K.T sc t aj).bind λh=>(K.X sc x d).aw (K.X sc u p) λJ L=>w7 h J L|.not x=>r4 (P:=λe=>aK n sc G e<|am tab ab<|.not x) e λd a=>(K.X sc x d).map λh=>w0 h|.bo p as=>r5 (P:=λe=>aK n sc G e<|am tab ab<|.bo p as) e λD f a=>gp (D=jj p) λh=>(K.O sc p as f).map λJ=>by subst h;exact w_ J|.cmp A x u=>od (P:=λe=>aK n sc G e<|am tab ab<|.cmp A x u) e λd os cs j=>l1 (P:=λos=>aK n sc G (.Compare d os cs j)<|am tab ab<|.cmp A x u) os λD=>l1 (P:=λcs=>aK n sc G (.Compare d [D] cs j)<|am tab ab<|.cmp A x u) cs λp=>gp (D=fQ A/\Jx D p=EF) λh=>(K.X sc x d).aw (K.X sc u p) λJ L=>by refine aN h λs h=>?_;subst s;exact w1 h J L|.tup as=>jt (P:=λe=>aK n sc G e<|am tab ab<|.tup as) e λf a a=>gp (f.length<=1000) λh=>(K.L sc as f).map λJ=>xe J<|ED h dd|.lst EF as=>r6 (P:=λe=>aK n sc G e<|am tab ab<|.lst EF as) e λf a=>gp (f.length<=1000) λh=>(K.L sc as f).map λJ=>xf J<|ED h dd|.lst Do as=>r6 (P:=λe=>aK n sc G e<|am tab ab<|.lst Do as) e λf a=>gp (f.length<=1000) λh=>(K.L sc as f).map λJ=>xg J<|ED h dd|.bf=>y2 (P:=λe=>aK n sc G e<|am tab ab .bf) e λa=>.yes<|xh n.sys|x=>(kM Q K sc x e).map λh=>yk h.eval h.core
end
section
variable(Q:Std n G ab)(K:Ck n G ab)
def kT(sc:Sc)(t:T)(e:Ff):Opt<|dE n sc G e<|bS tab ab t:=match t with|.c0=>.no|.x d=>gp (nV e=Do) λh=>(K.X sc d e).map λJ=>w5 h J|.not t=>r4 (P:=λe=>dE n sc G e<|bS tab ab<|.not t) e λd w=>(K.T sc t d).map λh=>w6 h|.bo p ts=>r5 (P:=λe=>dE n sc G e<|bS tab ab<|.bo p ts) e λD f w=>gp (D=jj p) λh=>(K.TL sc p ts f).map λJ=>by subst h;exact xb J|.cmp A x u=>od (P:=λe=>dE n sc G e<|bS tab ab<|.cmp A x u) e λd os cs j=>l1 (P:=λos=>dE n sc G (.Compare d os cs j)<|bS tab ab<|.cmp A x u) os λD=>l1 (P:=λcs=>dE n sc G (.Compare d [D] cs j)<|bS tab ab<|.cmp A x u) cs λp=>gp (D=fQ A/\Jx D p=EF) λh=>(K.X sc x d).aw (K.X sc u p) λJ L=>by refine aN h λs h=>?_;subst s;exact w2 h J L|.dz A a x u M=>od (P:=λe=>dE n sc G e<|bS tab ab<|.dz A a x u M) e λd os cs j=>g8 (P:=λos=>dE n sc G (.Compare d os cs j)<|bS tab ab<|.dz A a x u M) os λD o'=>g8 (P:=λcs=>dE n sc G (.Compare d [D,o'] cs j)<|bS tab ab<|.dz A a x u M) cs λp c=>gp (D=fQ A/\o'=fQ a/\Jx o' c=EF) λh=>(K.X sc x d).bind λJ=>(K.X sc u p).aw (K.X sc M c) λL b=>by obtain⟨rfl,rfl,h⟩:=h;exact w3 h J L b
def kL(sc:Sc)(x:XL)(f:List Ff):Opt<|fp n sc G f<|cW tab ab x:=match x with|.nil=>fB (P:=λf=>fp n sc G f<|cW tab ab .nil) f<|.yes xc|.cons x o=>lc (P:=λf=>fp n sc G f<|cW tab ab<|.cons x o) f λe f=>gp (a5 e=Do) λh=>(K.X sc x e).aw (K.L sc o f) λJ L=>xd h J L
def y6(sc:Sc)(p:Bool)(x:TL)(f:List Ff):Opt<|hJ n sc G p f<|fM tab ab p x:=match x with|.nil=>fB (P:=λf=>hJ n sc G p f<|fM tab ab p .nil) f<|.yes w'|.cons x o=>lc (P:=λf=>hJ n sc G p f<|fM tab ab p<|.cons x o) f λe f=>(K.T sc x e).aw (K.TL sc p o f) λJ L=>xa J L
def kO(sc:Sc)(p:Bool)(x:XL)(f:List Ff):Opt<|g7 n sc G p f<|eY tab ab p x:=match x with|.nil=>.no|.cons x .nil=>l1 (P:=λf=>g7 n sc G p f<|eY tab ab p<|.cons x .nil) f λe=>(K.X sc x e).map λh=>w8 h|.cons x<|.cons u o=>lc (P:=λf=>g7 n sc G p f<|eY tab ab p<|.cons x<|.cons u o) f λe f=>lc (P:=λf=>g7 n sc G p (e::f)<|eY tab ab p<|.cons x<|.cons u o) f λe' f=>(K.X sc x e).aw (K.O sc p (.cons u o)<|e'::f) λJ L=>w9 J L
def y7(sc:Sc)(a:Bool)(t:e_)(f:List Ff):Opt<|hF n (if a then LA else FA) sc G f (gh tab ab t)/\f.length=t.len:=match t with|.nil=>fB (P:=λf=>hF n (if a then LA else FA) sc G f (gh tab ab .nil)/\f.length=e_.nil.len) f<|.yes ⟨wa,rfl⟩|.cons t o=>lc (P:=λf=>hF n (if a then LA else FA) sc G f (gh tab ab<|.cons t o)/\f.length=(e_.cons t o).len) f λe f=>gp (a5 e=Do) λh=>(kG Q K sc a t e).aw (K.GL sc a o f) λJ L=>by refine aN L λL b=>⟨wb (λaa d h=>by induction a;exact h;exact .inl h) h J L,aY (·+1) b⟩
noncomputable def ck:Nat->Ck n G ab|0=>.nil n G ab|l+1=>⟨kX Q<|ck l,kT<|ck l,kL<|ck l,y6<|ck l,kO<|ck l,y7 Q<|ck l⟩
def y8(e:Ff):Bool:=(n8 e).isNone
section
variable{P:K_->Prop}
noncomputable def y9(e:K_)(k:∀t x j,Opt<|P<|.Assign [t] x j):Opt<|P e:=match e with|.Assign [t] x j=>k t x j|_=>.no
noncomputable def y_(e:K_)(k:∀x j,Opt<|P<|.Expr x j):Opt<|P e:=match e with|.Expr x j=>k x j|_=>.no
noncomputable def y'(e:K_)(k:∀x j,Opt<|P<|.Return (j' x) j):Opt<|P e:=match e with|.Return (j' x) j=>k x j|_=>.no
noncomputable def za(e:K_)(k:∀t d p j,Opt<|P<|.If t d p j):Opt<|P e:=match e with|.If t d p j=>k t d p j|_=>.no
noncomputable def zd(e:K_)(k:∀t d j,Opt<|P<|.While t d [] j):Opt<|P e:=match e with|.While t d [] j=>k t d j|_=>.no
noncomputable def ze(e:K_)(k:∀t i d j,Opt<|P<|.For t i d [] j):Opt<|P e:=match e with|.For t i d [] j=>k t i d j|_=>.no
end
theorem zf{i a:Nat}{m:aL}{C:Fl->aL->Hp->Prop}:(λ(v:V)(H:Hp)=>bY tab ab (.t<|.cons (.v i)<|.cons (.v a) .nil) v m H λm H=>C .nx m H)=λv H=>av (bT H v) λz=>z.length=2/\match z with|[]=>False|x::z=>match z with|[]=>False|u::z=>z=[]/\C .nx ((m.set i x).set a u) H:=by funext v H;cases v<;>rfl
def kW(sc:Sc)(t:Tg)(x:an)(l e:Ff)(j:J3):Opt<|cX n sc G (.Assign [l] e j)<|ej tab ab<|.asg t x:=match t with|.t<|.cons (.v i)<|.cons (.v a) .nil=>jt (P:=λl=>cX n sc G (.Assign [l] e j)<|ej tab ab<|.asg (.t<|.cons (.v i)<|.cons (.v a) .nil) x) l λts c q=>g8 (P:=λts=>cX n sc G (.Assign [.Tuple ts c q] e j)<|ej tab ab<|.asg (.t<|.cons (.v i)<|.cons (.v a) .nil) x) ts λt1 t2=>fU (P:=λt1=>cX n sc G (.Assign [.Tuple [t1,t2] c q] e j)<|ej tab ab<|.asg (.t<|.cons (.v i)<|.cons (.v a) .nil) x) (aI i) t1 λp1=>fU (P:=λt2=>cX n sc G (.Assign [.Tuple [.Name (aI i) p1,t2] c q] e j)<|ej tab ab<|.asg (.t<|.cons (.v i)<|.cons (.v a) .nil) x) (aI a) t2 λp2=>jt (P:=λe=>cX n sc G (.Assign [.Tuple [.Name (aI i) p1,.Name (aI a) p2] c q] e j)<|ej tab ab<|.asg (.t<|.cons (.v i)<|.cons (.v a) .nil) x) e λf c' q'=>g8 (P:=λf=>cX n sc G (.Assign [.Tuple [.Name (aI i) p1,.Name (aI a) p2] c q] (.Tuple f c' q') j)<|ej tab ab<|.asg (.t<|.cons (.v i)<|.cons (.v a) .nil) x) f λe1 e2=>gp (i<bU.length) λh=>gp (a<bU.length) λJ=>gp (kr sc i a p1 p2 e1 e2=Do) λL=>(K.X sc x _).map λb=>by intro aa N r Z H m C O I F hq;refine yL h J L b O I F ?_;have d:am tab ab x m H λ(v:V)(H:Hp)=>bY tab ab (.t<|.cons (.v i)<|.cons (.v a) .nil) v m H λm H=>C .nx m H:=hq;rw[zf]at d;exact d|_=>.no
def kU(sc:Sc)(t:Tg)(x:an)(l e:Ff)(j:J3):Opt<|cX n sc G (.Assign [l] e j)<|ej tab ab<|.asg t x:=match t with|.v i=>fU (P:=λl=>cX n sc G (.Assign [l] e j)<|ej tab ab<|.asg (.v i) x) (aI i) l λq=>gp (i<bU.length) λh=>gp (sc.lookup (aI i)=j' .local) λJ=>gp (jm sc e (.Name (aI i) q)=Do) λL=>(kM Q K sc x e).map λb=>by intro aa N r Z H m C O I F hq;exact yG h J L b.use b.core O I F hq|_=>.no
structure Cs(C:a_)(d:Nat)(cw:CW)where B(sc:Sc)(x:XB)(b:List Stmt):Opt<|eU C sc d b<|aV tab cw x
variable(S:Cs n G ab)
def kS(sc:Sc)(x:XS)(st:K_):Opt<|cX n sc G st<|ej tab ab x:=match x with|.asg t x=>y9 (P:=λst=>cX n sc G st<|ej tab ab<|.asg t x) st λl e j=>((gp (a5 l=Do) λh=>gp (jm sc e l=EF) λJ=>gp (n_ sc l e=Do) λL=>(K.X sc x e).aw (kG Q K sc EF t l) λb h4=>by intro aa N r Z H m C O I F hq;exact yF h J L b h4 O I F hq).or<|kU Q K sc t x l e j).or<|kW K sc t x l e j|.ex x=>y_ (P:=λst=>cX n sc G st<|ej tab ab<|.ex x) st λe w=>gp (y8 e=Do) λh=>(K.X sc x e).map λJ=>by intro aa N r Z H m C O I F hq;exact yC (Mc.mp h) J O I F hq|.ret x=>y' (P:=λst=>cX n sc G st<|ej tab ab<|.ret x) st λe w=>(K.X sc x e).map λh=>yy h|.be c d p=>za (P:=λst=>cX n sc G st<|ej tab ab<|.be c d p) st λl i a w=>(K.T sc c l).bind λh=>(S.B sc d i).aw (S.B sc p a) λJ L=>yz h J L|.fu c p=>zd (P:=λst=>cX n sc G st<|ej tab ab<|.fu c p) st λl a w=>(K.T sc c l).aw (S.B sc p a) λh J=>by intro aa N r Z H m C O I F hq;exact yA h J O I F hq|.for t it p=>ze (P:=λst=>cX n sc G st<|ej tab ab<|.for t it p) st λl f a w=>gp (jo f=Do) λh=>(kI Q K sc it l f).bind λJ=>(kG Q K sc EF t l).aw (S.B sc p a) λL b=>yB J L b<|jq h|.raise=>.yes<|by intro aa N r Z H m C O I F hq;exact hq.elim|.f9 _=>.no
theorem zg(h:aV tab ab (.cons (.f9 i) o) m H C):av (m i) λv=>av (cF v) λd=>av (H d) λD=>match D with|.list z=>aV tab ab o (m.set i<|.lst z) (H.del d) C|.dict f=>aV tab ab o (m.set i<|.br f) (H.del d) C|_=>False:=by change av (m i) λv=>av (cF v) λd=>av (H d) λD=>_ at h;cases hl:m i with|none=>rw[hl]at h;exact h.elim|some v=>rw[hl,c6]at h;rw[c6];cases hv:cF v with|none=>rw[hv]at h;exact h.elim|some d=>rw[hv,c6]at h;rw[c6];cases A:H d with|none=>rw[A]at h;exact h.elim|some D=>rw[A,c6]at h;rw[c6];induction D<;>exact h
def kB(sc:Sc)(x:XB)(p:List K_):Opt<|eU n sc G p<|aV tab ab x:=match x with|.nil=>fB (P:=λp=>eU n sc G p<|aV tab ab .nil) p<|.yes yv|.cons (.f9 i) o=>(S.B sc o p).map λh=>by intro aa N r Z H m C O I F hq;exact yx i h O I F<|zg hq|.cons r o=>lc (P:=λp=>eU n sc G p<|aV tab ab<|.cons r o) p λst p=>(kS Q K S sc r st).aw (S.B sc o p) λh J=>by intro aa N r Z H m C O I F hq;exact yw h J O I F hq
noncomputable def r9(y:Nat):Nat->Cs n G ab|0=>⟨λd d d=>.no⟩|l+1=>⟨kB Q (ck Q y)<|r9 y l⟩
end
noncomputable def og(K:KN)(D:Obj):Bool:=match D.data with|.func w=>codeIn K w.code w.qualname|_=>EF
section
variable(Q:Std n G ab)
def zi(d:EZ)(fn:Fn)(D:Obj):Opt<|n.K.lookup d=j' D->og n.K D=Do->FnOk n G tab ab d fn:=match D with|⟨_,_,.func ⟨_,_,⟨[],args,kf,[],[],kf,[]⟩,.stmts body,scope,q,[],.none,_,_,_,_,_,_,bi⟩,_⟩=>gp (q=HN/\bi=NE) λh=>gp (args.map (·.arg)=fn.params.map aI) λJ=>gp (fn.params.map aI).Nodup λL=>gp (scope.kind=.function/\scope.isCoroutine=EF/\scope.isGenerator=EF) λb=>gp (fn.params.all (λi=>decide (i<bU.length)&&l6 scope.names i)=Do) λh4=>gp (scope.names.map (·.1)).Nodup λh5=>((r9 Q 30 60).B scope.names fn.body body).map λh6 hK hc=>by refine aN h λs z2=>?_;clear h;subst s;subst z2;simp only[FE,Ft,decide_eq_true_eq]at h4;exact⟨_,_,_,_,_,_,_,_,_,_,_,_,_,_,hK,J,L,hc,b.1,b.2.1,b.2.2,λi hi=>(h4 i hi).1,λi hi=>r2 (h4 i hi).2,h5,h6⟩|_=>.no
end
noncomputable def kx(K:KN)(x:EJ):Option Value:=(K.lookup HN).bind λD=>match D.data with|.dict f _=>nsFind f x|_=>kf
theorem oh{n:a_}{x:EJ}{v:EI}(h:kx n.K x=j' v):n.mg x=j' v:=by refine aA (Option.bind_eq_some_iff.mp h) λD hK h=>?_;refine dJ n.g λo' R ad e w d hf=>?_;obtain rfl:=EA<|(n.X _ _ hK).symm.trans e;rw[w]at h;exact(hf _).symm.trans h
def oi(v:Option EI)(d:EZ):Opt<|v=j' (.ref d):=match v with|some<|.ref p=>gp (p=d) λh=>.yes<|h▸rfl|_=>.no
def r_(v:Option<|Option EI)(d:EZ):Opt<|v=j' (j'<|.ref d):=match v with|some x=>(oi x d).map λh=>h▸rfl|_=>.no
def r'(v:Option EI)(l:String):Opt<|v=j' (.type l):=match v with|some<|.type t=>gp (t=l) λh=>.yes<|h▸rfl|_=>.no
def sa(v:Option<|Option EI)(l:String):Opt<|v=j' (j'<|.builtin l):=match v with|some<|j'<|.builtin t=>gp (t=l) λh=>.yes<|h▸rfl|_=>.no
noncomputable def oj(D:Option α)(P:Option α->Prop)(k:∀x,Opt<|P<|j' x):Opt<|P D:=match D with|some x=>k x|kf=>.no
def sb(K:KN)(c l:Nat)(cls:Nat->EZ):Opt<|∃o,Ol K (.ref<|cls c) (aI l)=j' o/\noGet K o=Do/\takerIn K (cls c) (aI l)=j' kf:=oj (Ol K (.ref<|cls c)<|aI l) (λD=>∃o,D=j' o/\noGet K o=Do/\takerIn K (cls c) (aI l)=j' kf) λo=>gp (noGet K o=Do) λd=>oj (takerIn K (cls c)<|aI l) (λt=>∃q,j' o=j' q/\noGet K q=Do/\t=j' kf) λx=>match x with|kf=>.yes ⟨o,rfl,d,rfl⟩|some _=>.no
def sd(K:KN)(u:Nat->EZ)(w:Nat):Bool:=keepIn K (.ref<|u w)&&(r' (typeIn K<|.ref<|u w) "function").ok
def ol(K:KN)(cls:Nat->EZ)(c:Nat):Bool:=keepIn K (.ref<|cls c)&&hasDictIn K (cls c)&&plainGet K (cls c) ""&&plainOver K (cls c)&&(sa (Ol K (.ref<|cls c) "__setattr__") "object.__setattr__").ok&&makesIn K (cls c)&&eE.all λl=>(sb K c l cls).ok
def om(K:KN)(u cls:Nat->EZ):Bool:=(j7.all λj=>(oi (kx K<|Et j.2)<|u j.1).ok)&&j8.all λj=>(oi (kx K<|Et j.2)<|cls j.1).ok
def on(K:KN)(u cls:Nat->EZ):Bool:=(jc.all λj=>(r_ (Ol K (.ref<|cls j.1)<|aI j.2.1)<|u j.2.2).ok)&&h7.all λj=>(r_ (Ol K (.ref<|cls j.1) "__init__")<|u j.2).ok
set_option tactic.hygienic true in
theorem zj(J:∀w,w<54->sd n.K n.fa w=Do)(L:∀c,c<6->ol n.K n.cls c=Do)(b:om n.K n.fa n.cls=Do)(h4:on n.K n.fa n.cls=Do):Facts n:=by
 simp only[om,on,Ft,FE]at b h4;have k1:∀w,w<54->keepIn n.K (.ref<|n.fa w)=Do/\(r' (typeIn n.K<|.ref<|n.fa w) "function").ok=true:=λw hf=>by have:=J w hf;exact GY.mp this
 have A:∀c,c<6->(((((keepIn n.K (.ref<|n.cls c)=Do/\hasDictIn n.K (n.cls c)=Do)/\plainGet n.K (n.cls c) ""=Do)/\plainOver n.K (n.cls c)=Do)/\(sa (Ol n.K (.ref<|n.cls c) "__setattr__") "object.__setattr__").ok=Do)/\makesIn n.K (n.cls c)=Do)/\∀l∈eE,(sb n.K c l n.cls).ok=Do:=λc hc=>by have:=L c hc;simpa only[ol,Ft,FE]using this
 exact{
  iq:=λw l hm=>oh<|Opt.get<|b.1 (w,l) hm
  gcl:=λc l hm=>oh<|Opt.get<|b.2 (c,l) hm
  fq:=λw hf=>(k1 w hf).1
  keepC:=λc hc=>(A c hc).1.1.1.1.1.1
  fn:=λw hf=>Opt.get (k1 w hf).2
  has:=λc hc=>(A c hc).1.1.1.1.1.2
  plain:=λc hc=>(A c hc).1.1.1.1.2
  over:=λc hc=>(A c hc).1.1.1.2
  setA:=λc hc=>Opt.get (A c hc).1.1.2
  attr:=λc hc l hn=>Opt.get<|(A c hc).2 l hn
  ai:=λc y w hm=>Opt.get<|h4.1 (c,y,w) hm
  make:=λc hc=>(A c hc).1.2
  init:=λc w hm=>Opt.get<|h4.2 (c,w) hm}
theorem zk(T:Facts n)(B:hK n)(S:l7 n)(a:∃t,n.mg (Et "_law_far")=j' (.int 1000000 t))(hf:∀{G ab},Std n G ab->∀w fn,fO w=j' fn->FnOk n G tab ab (n.fa w) fn):∀G,km n G<|nz tab fO G:=by intro G;induction G with|zero=>exactλd d d d h=>h.elim|succ G ih=>intro w Y H C h;exact dK (D:=fO w) h λfn hn h=>vL (hf ⟨T,B,S,ih,a⟩ w fn hn) h.1 h.2
noncomputable abbrev fV:Program:=PySem.Challenge.pw_pq0085_01
noncomputable def se:List Obj->BT->Nat->BT|[],t,_=>t|D::o,t,l=>se o (t.ins l D)<|l+1
noncomputable def ky(st:Lg->Lt->Option (Lg×Lt))(ok:Lt->Bool):Nat->Lg->Lt->Option Lg|0,_,_=>none|l+1,r,t=>match through t with|true=>j' r|false=>match ok t with|false=>none|true=>match st r t with|some (s',t')=>ky st ok l s' t'|none=>none
theorem zl{st:Lg->Lt->Option (Lg×Lt)}{ok:Lt->Bool}{l:Nat}{r:Lg}{t:Lt}:ky st ok (l+1) r t=match through t with|true=>j' r|false=>match ok t with|false=>none|true=>match st r t with|some (s',t')=>ky st ok l s' t'|none=>none:=rfl
theorem sf:∀{l:Nat}{r s':Lg}{t:Lt},ky (stepT (denote MO) j A) (stepOk a f) l r t=j' s'->topRun MO j A a f l r.abs t=j' s'.abs|0,r,s',t,h=>nomatch h|l+1,r,s',t,h=>by rw[zl]at h;unfold topRun;cases e:through t with|true=>rw[e]at h;cases h;rfl|false=>rw[e]at h;cases e2:stepOk a f t with|false=>rw[e2]at h;cases h|true=>rw[e2]at h;cases e3:stepT (denote MO) j A r t with|none=>rw[e3]at h;cases h|some o=>obtain⟨s2,t2⟩:=o;rw[e3]at h;exact stepT_spec e3▸sf h
noncomputable def kz(j:Hc)(A:F7)(a:Nat)(f:Option EI):=ky (Fast.tw10156331382660048174 (Fast.tw11892475500146522536 Fast.tw14364793385576792824) j A)<|Fast.tw6613529449190102663 a f
theorem zm(h:kz j A a f l r t=j' s'):topRun MO j A a f l r.abs t=j' s'.abs:=by unfold kz at h;rw[<-Fast.te10156331382660048174,<-Fast.te11892475500146522536,<-Fast.te14364793385576792824,<-Fast.te6613529449190102663]at h;exact sf h
noncomputable def T0(P:Params):BT:=se (Hi P).objs.toList .nil 0
noncomputable def S0(A:F7)(os:Mh):SharedT:=⟨T0 A.params,11,(Hi A.params).life,#[],boot_drawn,boot_toks,os⟩
theorem zn(A:F7)(os:Mh):(S0 A os).abs=⟨Hi A.params,#[],boot_drawn,boot_toks,os⟩:=by kernel_rfl
noncomputable def qv:Program:=view fV [32]
noncomputable def ju:List Str:=["_wall","__name__","whole_of","Consts","Spans","Keeper","HeapError","TermFault","is_op","parts","Bank","Unions","Heap","_law_leaves","_law_far","_law_pull","_law_term","_law_gather","_law_is_alike","_law_closed","_law_cut","_law_span","_law_met","_law_figure","_law_agreed","_law_clashes","_law_is_right"]
noncomputable def zo:RowW:=Lh.row.toRowW
noncomputable def xt(r:EQ):Bool:=xlAt qv [] r&&recOk zo.records r
theorem zp(P:Params):((Hi P).isNs HN,(Hi P).objs.size,(Hi P).nsMap HN "__annotations__")=(Do,11,j'<|.ref 6):=by kernel_rfl
noncomputable def oo:List Nat:=[26,40,47,54,75,82,89,94,101,122,136,141,146,151,211,230,242,249,275,282,336,343,350,357,364,371,376,418,430,435,440,447,454,468,475,482,496,503,508,527,541,548,553,560,565,570,577,582,589,596,603,608,613,618]
noncomputable def op:List Nat:=[57,104,161,318,400,530]
noncomputable def gN(w:Nat):Addr:=oo.getD w 0
noncomputable def l8(c:Nat):Addr:=op.getD c 0
noncomputable def sg(v:Option EI):Opt<|∃t,v=j' (.int 1000000 t):=match v with|some<|.int l t=>gp (l=1000000) λh=>.yes ⟨t,h▸rfl⟩|_=>.no
noncomputable def zq(D:Obj)(x:EJ):Opt<|∃f l,D.data=.dict f l/\nsFind f x=kf:=match D with|⟨_,_,.dict f l,_⟩=>gp ((nsFind f x).isNone=Do) λh=>.yes ⟨f,l,rfl,Mc.mp h⟩|_=>.no
noncomputable def si(K:KN)(x:EJ):Opt<|∃D,K.lookup HN=j' D/\∃f l,D.data=.dict f l/\nsFind f x=kf:=oj (K.lookup HN) (λq=>∃D,q=j' D/\∃f l,D.data=.dict f l/\nsFind f x=kf) λD=>(zq D x).map λh=>⟨D,rfl,h⟩
noncomputable def iC(K:KN):Bool:=((E3 54).all λw=>sd K gN w)&&((E3 6).all λw=>ol K l8 w)&&om K gN l8&&on K gN l8&&(sg<|kx K<|Et "_law_far").ok&&(jk.all λl=>(si K<|Et l).ok)&&(E3 54).all λw=>(K.lookup<|gN w).any<|og K
noncomputable def iD(K:KN)(n:a_)(G:Nat)(ab:CW)(Q:Std n G ab):Bool:=(E3 54).all λw=>match fO w,K.lookup (gN w)with|some fn,j' D=>(zi Q (gN w) fn D).ok|_,_=>EF
noncomputable def gO(h:F6):Frag:=(op++op.map (·-1)++3::oo++oo.map (·-1)).filterMap λd=>(h.get? d).map λD=>(d,D)
noncomputable def oq(A:F7)(os:Mh):Option SharedT:=kz fV A 11 (j'<|.ref 6) 4100 (S0 A os)<|topStub fV
theorem zr(A:F7)(os:Mh):(oq A os).map (λS=>(staticsOk (Iq fV.main.body) (Hi A.params) S.abs.heap&&namesBound fV S.abs.heap&&gensDone S.abs&&laidKept (Hi A.params) S.abs.heap,Fast.tw4187177175401517315 qv ju (Iq fV.main.body) xt Do S.abs))=j' (Do,openGood qv ju):=by kernel_rfl
theorem zs(A:F7)(os:Mh):(oq A os).map (λS=>iC<|gO S.abs.heap)=j' true:=by kernel_rfl
theorem zt(A:F7)(os:Mh):(oq A os).map (λS=>iD<|gO S.abs.heap)=j' λd d d d=>Do:=by kernel_rfl
end Mine.Internal
namespace Mine.Internal.LL
section
variable{A:Fl->aL->Hp->Prop}
theorem b4(h:am tab ab e m H λv H=>bY tab ab t v m H λm H=>aV tab ab o m H A):aV tab ab (.cons (.asg t e) o) m H A:=h
theorem bG(h:am tab ab e m H λv H=>aV tab ab o (m.set i v) H A):aV tab ab (.cons (.asg (.v i) e) o) m H A:=h
theorem co(h:am tab ab e m H λd H=>aV tab ab o m H A):aV tab ab (.cons (.ex e) o) m H A:=h
theorem aU(h:am tab ab e m H λv H=>A (.rt v) m H):aV tab ab (.cons (.ret e) o) m H A:=h
theorem b6(h:A .nx m H):aV tab ab .nil m H A:=h
theorem sj(I:Nat->aL->Hp->Prop)(l:Nat)(h0:I l m H)(h:∀l m H,I l m H->bS tab ab c m H λq H=>if q then aV tab ab p m H λw m H=>match w with|.nx=>∃y,y<l/\I y m H|.rt v=>A (.rt v) m H else aV tab ab o m H A):aV tab ab (.cons (.fu c p) o) m H A:=⟨I,⟨l,h0⟩,h⟩
theorem Er{C:V->Hp->Prop}(h:∀K,(∀v H,C v H->K v H)->am tab ab e m H K):am tab ab e m H C:=h C λv H h=>h
theorem l_(I:Nat->aL->Hp->Prop)(l:Nat)(h0:I l m H)(h:∀l m H,I l m H->∀W,(∀y m H,y<l->I y m H->W .nx m H)->(∀v m H,A (.rt v) m H->W (.rt v) m H)->bS tab ab c m H λq H=>if q then aV tab ab p m H W else aV tab ab o m H A):aV tab ab (.cons (.fu c p) o) m H A:=sj I l h0 λl m H i=>h l m H i _ (λy m H d p=>⟨y,d,p⟩) λv m H h=>h
theorem e4(h:cO tab ab it m H λz H=>z.length<=aR/\fN (aV tab ab p) (bY tab ab t) z m H λw m H=>match w with|.nx=>aV tab ab o m H A|.rt v=>A (.rt v) m H):aV tab ab (.cons (.for t it p) o) m H A:=h
end
section
variable{C:V->Hp->Prop}
theorem aG(q:C c H):am tab ab (.k c) m H C:=q
theorem ac(h:m i=j' v)(q:C v H):am tab ab (.v i) m H C:=by show av (m i) _;exact h▸q
theorem g9(q:C (.int l) H):am tab ab (.g i l) m H C:=q
theorem ba(hl:m i=j' (.ref d))(A:H d=j' (.inst c dx fs))(hf:c7 fs l=j' v)(q:C v H):am tab ab (.attr (.v i) l) m H C:=by show av (m i) _;rw[hl];show av (H d) _;rw[A];show av (c7 fs l) _;exact hf▸q
theorem cd(k:cW tab ab as m H λY H=>ab w Y H C):am tab ab (.call w as) m H C:=k
theorem bE(hl:m i=j' (.ref d))(A:H d=j' (.inst c dx fs))(hn:c7 fs y=kf)(hm:tab.ai c y=j' w)(k:cW tab ab as m H λY H=>ab w (.ref d::Y) H C):am tab ab (.ai (.v i) y as) m H C:=by show av (m i) _;rw[hl];show av (H d) _;rw[A];refine⟨hn,?_⟩;exact hm▸k
theorem dO(hl:m i=j' (.ref Q))(b:H Q=j' (.inst c' bc a))(e:c7 a l=j' (.ref d))(A:H d=j' (.inst c dx fs))(hn:c7 fs y=kf)(hm:tab.ai c y=j' w)(k:cW tab ab as m H λY H=>ab w (.ref d::Y) H C):am tab ab (.ai (.attr (.v i) l) y as) m H C:=ba (ab:=ab) (C:=λov H=>av (cF ov) λd=>av (H d) λob=>match ob with|.inst c _ fs=>c7 fs y=kf/\av (tab.ai c y) λw=>cW tab ab as m H λY H=>ab w (.ref d::Y) H C|_=>False) hl b e<|by show av (H d) _;rw[A];refine⟨hn,?_⟩;exact hm▸k
theorem bO(k:cW tab ab as m H λY H=>C (.tup Y) H):am tab ab (.tup as) m H C:=k
theorem bF(k:am tab ab d m H λs H=>am tab ab p m H λE H=>fd H A s E λv=>C v H):am tab ab (.bin A d p) m H C:=k
theorem aX(k:am tab ab D m H λov H=>am tab ab i m H λQ H=>fL H ov Q λv=>C v H):am tab ab (.sub D i) m H C:=k
theorem bZ(k:bS tab ab t m H λc H=>if c then am tab ab d m H C else am tab ab p m H C):am tab ab (.ite t d p) m H C:=k
theorem fW(k:cW tab ab as m H λY H=>C (.lst Y) H):am tab ab (.lst EF as) m H C:=k
theorem jv(h:tab.init c=j' w)(k:cW tab ab as m H λY H=>∀d dx,H d=kf->H dx=kf->d≠dx->ab w (.ref d::Y) ((H.set dx .b9).set d<|.inst c dx []) λv H=>v=.none/\C (.ref d) H):am tab ab (.new c as) m H C:=by show cW tab ab as m H λY H=>av (tab.init c) _;exact h▸k
end
section
variable{C:List V->Hp->Prop}
theorem aH(q:C [] H):cW tab ab .nil m H C:=q
theorem ap(k:am tab ab e m H λv H=>cW tab ab o m H λY H=>C (v::Y) H):cW tab ab (.cons e o) m H C:=k
theorem ce(k:am tab ab x m H λv H=>av (j5 v) λz=>C z H):cO tab ab (.pl x) m H C:=k
end
section
variable{C:Bool->Hp->Prop}
theorem aW(k:am tab ab d m H λs H=>am tab ab p m H λE H=>bK H A s E λc=>C c H):bS tab ab (.cmp A d p) m H C:=k
theorem kA(k:am tab ab e m H λv H=>av (eP v) λc=>C c H):bS tab ab (.x e) m H C:=k
theorem jw(k:bS tab ab t m H λc H=>C (!c) H):bS tab ab (.not t) m H C:=k
theorem fC(k:bS tab ab t m H λc H=>if c=EF then fM tab ab EF o m H C else C c H):bS tab ab (.bo EF<|.cons t o) m H C:=k
end
section
variable{d p:V}
theorem cH(b:bs d)(h:d=p)(q:C Do):bK H .eq d p C:=by subst h;refine⟨b,b,λc hc=>?_⟩;exact hc.mpr rfl▸q
theorem c3(b:bs d)(e:bs p)(h:d≠p)(q:C EF):bK H .eq d p C:=by
 refine⟨b,e,λc hc=>?_⟩;induction c;.exact q
 .exact aJ (hc.mp rfl) h
theorem ma(b:bs d)(h:d=p)(q:C EF):bK H .ne d p C:=by
 subst h;refine⟨b,b,λc hc=>?_⟩;induction c;.exact q
 .exact aJ rfl<|hc.mp rfl
theorem kD(b:bs d)(e:bs p)(h:d≠p)(q:C Do):bK H .ne d p C:=by refine⟨b,e,λc hc=>?_⟩;exact hc.mpr h▸q
theorem sk(h:d≠.none)(q:C EF):bK H .isA d .none C:=by
 refine⟨rfl,λc hc=>?_⟩;induction c;.exact q
 .exact aJ (hc.mp rfl) h
theorem sl(q:C Do):bK H .isA .none .none C:=⟨rfl,λc hc=>hc.mpr rfl▸q⟩
theorem gP(q:C<|decide<|i=a):bK H .eq (.int i) (.int a) C:=by
 refine⟨.int _ _,.int _ _,λc hc=>?_⟩;have:c=decide (i=a):=by rw[Ij,hc,decide_eq_true_iff,V.int.injEq]
 exact this▸q
theorem zu(q:C<|decide<|i≠a):bK H .ne (.int i) (.int a) C:=by
 refine⟨.int _ _,.int _ _,λc hc=>?_⟩;have:c=decide (i≠a):=by rw[Ij,hc,decide_eq_true_iff,ne_eq,V.int.injEq]
 exact this▸q
end
abbrev CN(G:Nat):CW:=nz tab fO G
abbrev fD(C:V->Hp->Prop):Fl->aL->Hp->Prop:=λfl d H=>match fl with|.nx=>C .none H|.rt v=>C v H
theorem a6(h:fO w=j' fn)(hl:fn.params.length=Y.length)(k:aV tab (CN G) fn.body (fo fn.params Y) H<|fD C):CN (G+1) w Y H C:=by show av (fO w) _;exact h▸⟨hl,k⟩
theorem aL.ao(m:aL)(i:Nat)(v:V):m.set i v i=j' v:=by simp[aL.set]
theorem aL.af(m:aL)(v:V)(h:a≠i):m.set i v a=m a:=by simp[aL.set,h]
theorem Hp.ao(H:Hp)(d:Nat)(D:c2):H.set d D d=j' D:=by simp[Hp.set]
theorem Hp.af(H:Hp)(D:c2)(h:p≠d):H.set d D p=H p:=by simp[Hp.set,h]
noncomputable abbrev RH:=Nat->Option c2
noncomputable abbrev Ad:=Nat->Nat
noncomputable def RH.upd(al:RH)(o:Nat)(D:c2):RH:=λq=>if q=o then j' D else al q
noncomputable def RH.drop(al:RH)(o:Nat):RH:=λq=>if q=o then kf else al q
noncomputable def Ad.upd(Y:Ad)(o:Nat)(d:Nat):Ad:=λq=>if q=o then d else Y q
structure Rp(adr:Ad)(O:RH)(H:Hp):Prop where
 inj:∀r q,O r≠.none->O q≠.none->adr r=adr q->r=q
 get:∀{r o},O r=some o->H (adr r)=some o
section
variable{Y:Ad}{al:RH}{H:Hp}{o q:Nat}{D:c2}
theorem RH.ae:al.upd o D o=j' D:=by simp[RH.upd]
theorem RH.aa(h:q≠o):al.upd o D q=al q:=by simp[RH.upd,h]
theorem RH.bg(h:q≠o):al.drop o q=al q:=by simp[RH.drop,h]
theorem RH.drop_eq:al.drop o o=.none:=by simp[RH.drop]
theorem Ad.ae:Y.upd o d o=d:=by simp[Ad.upd]
theorem Ad.aa(h:q≠o):Y.upd o d q=Y q:=by simp[Ad.upd,h]
theorem RH.live(h:al o=j' D):al o≠.none:=h▸λe=>aP e.symm
theorem Rp.set(R:Rp Y al H)(h:al o=j' o')(D:c2):Rp Y (al.upd o D) (H.set (Y o) D)where
 inj d p ha hb e:=by
  have V:∀c,al.upd o D c≠kf->al c≠.none:=λc hc=>by
   by_cases k:c=o;.exact k▸RH.live h
   .rwa[RH.aa k]at hc
  exact R.inj d p (V d ha) (V p hb) e
 get{q j}e:=by
  by_cases k:q=o;.clear h;subst k;rw[RH.ae]at e;rw[Hp.ao];exact e
  .rw[RH.aa k]at e;rw[Hp.af _ _ λA=>k<|R.inj q o (RH.live e) (RH.live h) A];exact R.get e
theorem Rp.new(R:Rp Y al H)(ha:H d=kf)(h:al o=kf)(D:c2):Rp (Y.upd o d) (al.upd o D) (H.set d D)where
 inj p c hb hc e:=by
  by_cases a:p=o<;>by_cases b:c=o;.rw[a,b]
  .clear h hb;replace a:=a.symm;subst a;rw[Ad.ae,Ad.aa b]at e;rw[RH.aa b]at hc;refine ax (Iu.mp hc) λj hp=>?_;rw[e,R.get hp]at ha;exact aP ha.symm
  .clear h hc;replace b:=b.symm;subst b;rw[Ad.ae,Ad.aa a]at e;rw[RH.aa a]at hb;refine ax (Iu.mp hb) λj hp=>?_;rw[<-e,R.get hp]at ha;exact aP ha.symm
  .rw[Ad.aa a,Ad.aa b]at e;rw[RH.aa a]at hb;rw[RH.aa b]at hc;exact R.inj p c hb hc e
 get{q j}e:=by
  by_cases k:q=o;.clear h;replace k:=k.symm;subst k;rw[RH.ae]at e;rw[Ad.ae,Hp.ao];exact e
  .rw[RH.aa k]at e;rw[Ad.aa k,Hp.af _ _ λA=>by rw[<-A,R.get e]at ha;cases ha];exact R.get e
theorem Rp.weak(R:Rp Y al H)(h:∀o D,O' o=j' D->al o=j' D):Rp Y O' H where
 inj d p ha hb e:=by refine ax (Iu.mp ha) λj hp=>ax (Iu.mp hb) λa am=>R.inj d p (RH.live<|h _ _ hp) (RH.live<|h _ _ am) e
 get e:=R.get<|h _ _ e
theorem Rp.drop(R:Rp Y al H)(o:Nat):Rp Y (al.drop o) H:=R.weak λq D e=>by
 by_cases k:q=o;.rw[k,RH.drop_eq]at e;exact aP e
 .rwa[RH.bg k]at e
theorem Rp.dead(R:Rp Y al H)(ha:H d=kf)(D:c2):Rp Y al (H.set d D)where
 inj:=R.inj
 get{q j}e:=(Hp.af _ _ λA=>by rw[<-A,R.get e]at ha;exact aP ha.symm).trans<|R.get e
theorem Rp.del(R:Rp Y al H)(h:al o=j' D):Rp Y (al.drop o) (H.del<|Y o)where
 inj:=(R.drop o).inj
 get{q j}e:=by
  by_cases k:q=o;.rw[k,RH.drop_eq]at e;exact aP e
  .rw[RH.bg k]at e;have:Y q≠Y o:=λA=>k<|R.inj q o (RH.live e) (RH.live h) A;show(if Y q=Y o then kf else H<|Y q)=j' j;exact aC this▸R.get e
theorem Rp.move(R:Rp Y al H)(h:al r=j' D):Rp (Y.upd o<|Y r) ((al.drop r).upd o D) H where
 inj p c hb hc e:=by
  have d:∀{x},x≠o->(al.drop r).upd o D x≠kf->x≠r/\al x≠.none:=λ{x}k E=>by
   rw[RH.aa k]at E;by_cases ks:x=r;.rw[ks,RH.drop_eq]at E;exact aJ rfl E
   .rw[RH.bg ks]at E;exact⟨ks,E⟩
  by_cases a:p=o<;>by_cases b:c=o;.rw[a,b]
  .clear hb;replace a:=a.symm;subst a;rw[Ad.ae,Ad.aa b]at e;exact aJ (R.inj r c (RH.live h) (d b hc).2 e).symm (d b hc).1
  .clear hc;replace b:=b.symm;subst b;rw[Ad.ae,Ad.aa a]at e;exact aJ (R.inj p r (d a hb).2 (RH.live h) e) (d a hb).1
  .rw[Ad.aa a,Ad.aa b]at e;exact R.inj p c (d a hb).2 (d b hc).2 e
 get{q j}e:=by
  by_cases k:q=o;.replace k:=k.symm;subst k;rw[RH.ae]at e;exact Ad.ae▸e▸R.get h
  .rw[RH.aa k]at e;by_cases ks:q=r;.rw[ks,RH.drop_eq]at e;exact aP e
   .rw[RH.bg ks]at e;exact Ad.aa k▸R.get e
end
noncomputable def aM(ns:List Nat):List V:=ns.map λ(l:Nat)=>V.int l
theorem bV(ns:List Nat):(aM ns).length=ns.length:=by simp[aM]
theorem g_(d p:List Nat):aM (d++p)=aM d++aM p:=by simp[aM]
theorem mc(is:List Int):ca (is.map V.int)=j' is:=by induction is with|nil=>rfl|cons i is ih=>show(ca<|is.map V.int).map _=_;exact ih▸rfl
theorem sm(ns:List Nat):aM ns=(ns.map λ(l:Nat)=>(l:Int)).map V.int:=by simp[aM]
theorem sn(ns:List Nat):ca (aM ns)=j' (ns.map λ(l:Nat)=>(l:Int)):=by rw[sm];exact mc _
theorem so{js:List Int}(h:∀a∈js,0<=a):js.map V.int=aM (js.map Om):=by unfold aM;rw[Fb];refine FJ λa hj=>?_;show V.int a=V.int ((a.toNat:Nat):Int);rw[JA<|h a hj]
theorem g'{z:List V}{d:Nat}{v:V}(h:z[d]?=j' v)(hm:d<1000000):d2 z (d:Int)=j' v:=by unfold d2;refine(aF ⟨Gh _,aB 0x3b8f424022e40afa1201160 rfl hm⟩).trans<|h
section
variable{d:Nat}
theorem fT{z:List V}{l:Nat}{v:V}(h:H d=j' (.list z))(E:z[l]?=j' v)(hm:l<1000000)(q:C v):fL H (.ref d) (.int (l:Int)) C:=by show av (H d) _;rw[h];show av (d2 z l) _;exact g' E hm▸q
theorem gk(h:H d=j' (.dict f))(X:bD f k)(E:dget f k=j' v)(q:C v):fL H (.ref d) k C:=by show av (H d) _;rw[h];refine⟨X,?_⟩;exact E▸q
end
def d'(f:List<|V×V):Prop:=∀e∈f,g4 e.1
theorem cC(h:d' f)(i:Int):bD f<|.int i:=.inl ⟨⟨i,rfl⟩,h⟩
theorem ot:dget (bC f x u) M=if x=M then j' u else dget f M:=by induction f with|nil=>show(if x=M then j' u else dget [] M)=_;rfl|cons e f ih=>
  obtain⟨k,v⟩:=e;show dget (if k=x then _ else _) M=_;by_cases h:k=x
  .rw[aF h];clear ih;subst h;show(if k=M then j' u else dget f M)=if k=M then j' u else if k=M then j' v else dget f M;by_cases L:k=M;.rw[aF L,aF L]
   .rw[aC L,aC L,aC L]
  .rw[aC h];show(if k=M then j' v else dget (bC f x u) M)=if x=M then j' u else if k=M then j' v else dget f M;rw[ih];by_cases L:k=M;.rw[aF L,aF L,aC λe=>h<|L.trans e.symm]
   .rw[aC L,aC L]
theorem zv(h:e∈bC f x u):e=(x,u)\/e∈f:=by induction f with|nil=>exact .inl<|ta.mp h|cons w f ih=>
  obtain⟨k,v⟩:=w;change e∈if k=x then _ else _ at h;by_cases c:k=x
  .rw[aF c]at h;rcases EG.mp h with h|h;.left;rw[h,c]
   .exact .inr<|Ev _ h
  .rw[aC c]at h;rcases EG.mp h with h|h;.right;exact h▸Eu
   .exact(ih h).imp id<|Ev _
theorem sq:(bC f x u).length=if(dget f x).isSome then f.length else f.length+1:=by induction f with|nil=>rfl|cons w f ih=>
  obtain⟨k,v⟩:=w;show(if k=x then(k,u)::f else(k,v)::bC f x u).length=_;by_cases c:k=x;.rw[aF c];show _=if(if k=x then j' v else dget f x).isSome then _ else _;exact aF c▸rfl
  .rw[aC c];show _=if(if k=x then j' v else dget f x).isSome then _ else _;rw[aC c,Fi,ih];split<;>rfl
theorem zw(h:e∈cc f x):e∈f:=by induction f with|nil=>exact h|cons w f ih=>
  obtain⟨k,v⟩:=w;change e∈if k=x then f else _::cc f x at h;by_cases c:k=x;.rw[aF c]at h;exact Ev _ h
  .rw[aC c]at h;rcases EG.mp h with h|h;.exact h▸Eu
   .exact Ev _<|ih h
theorem sr(h:M≠x):dget (cc f x) M=dget f M:=by induction f with|nil=>rfl|cons w f ih=>
  obtain⟨k,v⟩:=w;show dget (if k=x then f else(k,v)::cc f x) M=if k=M then j' v else dget f M;by_cases c:k=x;.rw[aF c,aC λe=>h<|e.symm.trans c]
  .rw[aC c];show(if k=M then j' v else dget (cc f x) M)=_;rw[ih]
theorem ss(f:List<|V×V)(x:V):(cc f x).length<=f.length:=by induction f with|nil=>exact EM _|cons w f ih=>
  obtain⟨k,v⟩:=w;show(if k=x then f else(k,v)::cc f x).length<=_;by_cases c:k=x;.exact aF c▸GV _
  .exact aC c▸GF ih
theorem su(h:dget f x=j' u):(x,u)∈f:=by induction f with|nil=>exact aP h|cons w f ih=>
  obtain⟨k,v⟩:=w;change(if k=x then j' v else dget f x)=j' u at h;by_cases c:k=x;.rw[aF c]at h;obtain rfl:=IV<|EA h;exact c▸Eu
  .rw[aC c]at h;exact Ev _<|ih h
theorem d'.dput(h:d' f)(i:Int)(u:V):d'<|bC f (.int i) u:=λe he=>by
 rcases zv he with rfl|he;.exact⟨i,rfl⟩
 .exact h e he
theorem d'.ddel(h:d' f)(x:V):d'<|cc f x:=λe he=>h e<|zw he
noncomputable def bW(par:List Nat)(d:Nat):Nat:=WellFounded.fix Nat.lt_wfRel.wf (C:=λp=>Nat) (λd ih=>if h:par.getD d d<d then ih _ h else d) d
theorem jx(h:par.getD d d<d):bW par d=bW par (par.getD d d):=(On _ _ d).trans<|dif_pos h
theorem kE(h:¬par.getD d d<d):bW par d=d:=(On _ _ d).trans<|dif_neg h
section
variable{C:V->Hp->Prop}
def md(H:Hp)(v:V)(C:V->Hp->Prop):Prop:=av ((bP H v).or<|(cU H v).map λf=>f.map (·.1)) λz=>av (ca z) λis=>is.length<64/\∀js,hC is js->C (.lst<|js.map V.int) H
theorem jy(k:am tab ab x m H λv H=>md H v C):am tab ab (.sort x) m H C:=k
theorem kF(E:(bP H v).or ((cU H v).map λf=>f.map (·.1))=j' (aM ns))(hl:ns.length<64)(q:∀ms,ms.Perm ns->ms.Pairwise (·<=·)->C (.lst<|aM ms) H):md H v C:=by
 unfold md;rw[E];show av (ca<|aM ns) _;rw[sn];refine⟨by rwa[Ex],λjs hs=>?_⟩;have h0:∀a∈js,0<=a:=λa hj=>by refine aA (EO.mp<|hs.1.mem_iff.mp hj) λl d s=>?_;clear hj;subst s;exact Gh _
 rw[so h0];refine q _ ?_ ?_;.have:=hs.1.map Om;rw[Fb]at this;have e:(Om∘λ(l:Nat)=>(l:Int))=id:=rfl;rwa[e,Ke]at this
 .rw[HY];exact hs.2.imp λh=>Int.toNat_le_toNat h
theorem sv{d p:Nat}{ms:List Nat}(j:ms.Perm [d,p])(r:ms.Pairwise (·<=·)):ms=[min d p,max d p]:=by
 rcases ms with _|⟨x,_|⟨u,_|⟨M,o⟩⟩⟩;.exact Ja j.length_eq
 .exact Ja<|Hw j.length_eq
 .have b:x<=u:=(If.mp r).1 u<|ta.mpr rfl;have E:x=d\/x=p:=by simpa using j.mem_iff.mp<|Eu (a:=x)
  have ha:d=x\/d=u:=by simpa using j.mem_iff.mpr<|Eu (a:=d) (l:=[p])
  have hb:p=x\/p=u:=by simpa using j.mem_iff.mpr<|Ev d<|ta.mpr (rfl:p=p)
  have hy:u=d\/u=p:=by simpa using j.mem_iff.mp<|Ev x<|ta.mpr (rfl:u=u)
  have c:=j.sum_nat;simp only[HD,Mq]at c;congr 1;.exact cy 0x1def7b680c40e5823b007cb045600b96182c205020 rfl b E ha hb
  .congr 1;exact cy 0x1def7b688c41e5861b083cb047600f9608ac015020 rfl b ha hb hy
 .exact Ja<|Hw<|Hw j.length_eq
end
structure Par(par:List Nat)(n:Nat):Prop where
 len:par.length=n
 le:∀a,par.getD a a<=a
theorem sw(par:List Nat)(d:Nat):bW par d<=d:=by induction d using Ii with|ind d ih=>
  by_cases h:par.getD d d<d;.exact(jx h).symm▸ED (ih _ h) (Fa h)
  .exact(kE h).symm▸EM _
theorem sx(P:Par par l)(d:Nat):par.getD (bW par d) (bW par d)=bW par d:=by induction d using Ii with|ind d ih=>
  by_cases h:par.getD d d<d;.exact(jx h).symm▸ih _ h
  .exact(kE h).symm▸JE (P.le d) (Gf.mp h)
theorem me(h:par.getD d d=d):bW par d=d:=kE<|h.symm▸GN _
theorem dV(P:Par par l)(d:Nat):bW par (bW par d)=bW par d:=me<|sx P d
theorem ou(P:Par par l)(h:bW par d=d):par.getD d d=d:=h▸sx P d
theorem zx(par:List Nat)(P:Par par l)(d:Nat):bW par (par.getD d d)=bW par d:=by
 by_cases h:par.getD d d<d;.rw[jx h]
 .rw[JE (P.le d)<|Gf.mp h]
theorem ow{par:List Nat}{g k d:Nat}(hg:g<par.length):(par.set g k).getD d d=if d=g then k else par.getD d d:=by
 by_cases h:d=g;.subst h;rw[aF rfl,E9,Hz hg];rfl
 .rw[aC h,E9,Hn<|HF h,<-E9]
theorem Par.set{l g k:Nat}(P:Par par l)(hg:g<l)(X:k<=g):Par (par.set g k) l where
 len:=HV.trans P.len
 le d:=by
  rw[ow<|P.len▸hg];by_cases h:d=g;.exact aF h▸h▸X
  .exact aC h▸P.le d
theorem ox{l g k:Nat}(P:Par par l)(hg:g<l)(X:k<g)(Q:bW par g=g)(rk:bW par k=k)(d:Nat):bW (par.set g k) d=if bW par d=g then k else bW par d:=by have hl:g<par.length:=P.len▸hg;induction d using Ii with|ind d ih=>
  by_cases h:d=g;.clear hg;subst h;rw[Q,aF rfl];have e:(par.set d k).getD d d=k:=(ow hl).trans<|aF rfl;rw[jx<|e.symm▸X,e,ih k X,rk,aC<|EP X]
  .have e:(par.set g k).getD d d=par.getD d d:=(ow hl).trans<|aC h;by_cases c:par.getD d d<d;.rw[jx<|e▸c,e,ih _ c,jx c]
   .rw[kE<|e▸c,kE c,aC h]
theorem dW(h:d<l):bW par d<l:=ER (sw par d) h
noncomputable def c1(Y:Ad)(l:Nat):List V:=(E3 l).map λ(i:Nat)=>V.ref<|Y<|30+2*i
structure Uns(adr:Ad)(O:RH)(par:List Nat)(n:Nat):Prop where
 P:Par par n
 bq:n<64
 u:∃dx,O 2=some (.inst 4 dx [(49,.ref<|adr 7),(50,.ref<|adr 8),(51,.ref<|adr 9)])a:O 7=some (.list<|aM par)
theorem oy(U:Uns Y al par l)(h:d<l):par[d]?=j' (par.getD d d):=by have:d<par.length:=U.P.len▸h;rw[EL this,E9,EL this];rfl
theorem hM(h:l<64)(ha:d<l):d<1000000:=aE 0x3bdafa1201161a803510140 rfl h ha
theorem mf(R:Rp Y al H)(U:Uns Y al par l)(ha:d<l)(q:C (.int (bW par d:Nat)) H):CN (G+1) 23 [.ref<|Y 2,.int (d:Nat)] H C:=by
 refine ax U.u λdx hu=>?_;refine a6 (fn:=qm) rfl rfl<|sj (λy m H'=>H'=H/\y<l/\bW par y=bW par d/\m 3=j' (.ref<|Y 2)/\m 18=j' (.int (y:Nat))) d ⟨rfl,ha,rfl,rfl,rfl⟩ ?_;intro y m H' s;refine jT s λz2 hm O b f=>?_;clear s;subst z2;have rd:∀C,C (.int (par.getD y y:Nat)) H'->am tab (CN G) (.sub (.attr (.v 3) 49)<|.v 18) m H' C:=λC q=>aX<|ba b (R.get hu) rfl<|ac f<|fT (R.get U.a) (by unfold aM;rw[ET,oy U hm];rfl) (hM U.bq hm) q;refine aW<|rd _<|ac f<|zu ?_;by_cases h:par.getD y y=y;.rw[ga<|h.symm▸λe=>e rfl];refine aU<|ac f ?_;rw[<-O,me h]at q;exact q
 .rw[dI<|by rw[ne_eq,Gl];exact h];have lt:=Ig (U.P.le y) h;refine bG<|rd _<|b6 ⟨_,lt,rfl,GA lt hm,(zx par U.P y).trans O,b,rfl⟩
def eV(ab:CW)(e:an)(t:Tg)(c:T)(m:aL):V->Hp->(V->Hp->Prop)->(Hp->Prop)->Prop:=λx H kY L=>bY tab ab t x (m.bh t.vars) H λl' H=>bS tab ab c l' H λp H=>if p then am tab ab e l' H kY else L H
section
variable{C:V->Hp->Prop}
theorem c4(k:cO tab ab it m H λz H=>z.length<=aR/\cV (eV ab e t c m) z [] H λys H=>C (.lst ys) H):am tab ab (.comp e t it c) m H C:=k
def mh(H:Hp)(v:V)(C:V->Hp->Prop):Prop:=match v with|.str r=>r.length<=aR/\C (.int r.length) H|v=>av (bT H v) λz=>z.length<=aR/\C (.int z.length) H
theorem dt(k:am tab ab x m H λv H=>mh H v C):am tab ab (.len x) m H C:=k
def sy(H:Hp)(v:V)(C:List V->Hp->Prop):Prop:=av (bN v) λl=>0<=l/\l<1000000/\C (eQ l.toNat) H
theorem kH{x:an}{C:List V->Hp->Prop}(k:am tab ab x m H λv H=>sy H v C):cO tab ab (.range x) m H C:=k
theorem kJ{l:Nat}{C:List V->Hp->Prop}(h:l<1000000)(q:C (eQ l) H):sy H (.int (l:Int)) C:=⟨Gh _,aB 0x3b8f424022e40afa1201160 rfl h,q⟩
theorem fX{α:Type}{e:an}{i:Nat}(w g:α->V){Kk:List V->Hp->Prop}{as:List α}{ao:List V}(E:∀d∈as,∀kY,kY (g d) H->am tab ab e ((m.del i).set i<|w d) H kY)(k:Kk (ao++as.map g) H):cV (eV ab e (.v i) .c0 m) (as.map w) ao H Kk:=by induction as generalizing ao with|nil=>rw[IE,FR]at k;exact k|cons d as ih=>refine E d Eu _<|ih (λx h=>E x<|Ev _ h) ?_;rwa[FS]
theorem kK{α:Type}{c:T}{i:Nat}(w:α->V)(j:α->Bool){Kk:List V->Hp->Prop}{as:List α}{ao:List V}(E:∀d∈as,∀k,k (j d) H->bS tab ab c ((m.del i).set i<|w d) H k)(k:Kk (ao++(as.filter j).map w) H):cV (eV ab (.v i) (.v i) c m) (as.map w) ao H Kk:=by induction as generalizing ao with|nil=>rw[MP,IE,FR]at k;exact k|cons d as ih=>refine E d Eu _ ?_;have n:=λx h=>E x<|Ev _ h;cases hp:j d with|false=>rw[MA<|hp▸EX]at k;exact ih n k|true=>rw[MC hp]at k;show av (((m.del i).set i<|w d) i) _;rw[aL.ao];refine ih n ?_;rwa[FS]
end
theorem j3(h:H d=j' (.list z)):bT H (.ref d)=j' z:=by show(match H d with|some<|.list z=>j' z|_=>kf)=_;rw[h]
theorem mi(h:H d=j' (.list z)):bP H (.ref d)=j' z:=by show(match H d with|some<|.list z=>j' z|_=>kf)=_;rw[h]
theorem gE(h:H d=j' (.dict z)):cU H (.ref d)=j' z:=by show(match H d with|some<|.dict z=>j' z|_=>kf)=_;rw[h]
theorem gl(h:H d=j' (.list z))(hl:z.length<=aR)(q:C (.int z.length) H):mh H (.ref d) C:=by show av (bT H<|.ref d) _;exact j3 h▸⟨hl,q⟩
theorem a0(h:l<=1000):l<=aR:=ED h dd
theorem zy(R:Rp Y al H)(U:Uns Y al par l)(q:C (.lst<|aM<|(E3 l).filter λd=>decide<|bW par d=d) H):CN (G+1) 26 [.ref<|Y 2] H C:=by
 refine ax U.u λdx hu=>?_;have a:=R.get hu;have ga:=R.get U.a;have sz:=U.bq;have len:(aM par).length=l:=by rw[bV,U.P.len]
 refine a6 (fn:=qp) rfl rfl<|aU<|c4<|kH<|dt<|ba rfl a rfl<|gl ga (a0<|aE 0x77b4fa141b003510140 rfl sz len) ?_;rw[len];refine kJ (ED ‹_› dd)<|⟨a0<|by rw[eQ,Ex,Fo];exact ED (Fa ‹_›) dd,kK (λ(i:Nat)=>V.int i) (λd=>decide<|bW par d=d) (λy hm k q=>?_) q⟩;have b:=F3.mp hm;refine aW<|aX<|ba rfl a rfl<|ac rfl<|fT ga (by unfold aM;rw[ET,oy U b];rfl) (hM U.bq b)<|ac rfl<|gP ?_;have e:decide (((par.getD y y:Nat):Int)=y)=decide (bW par y=y):=by rw[Ij,decide_eq_true_iff,decide_eq_true_iff,Gl];exact⟨me,ou U.P⟩
 exact e.symm▸q
set_option genCtorIdx true in
inductive Sh where|lf(i:Fin 7)|un(b:Bool)|bi(b:Bool)
set_option genCtorIdx true in
inductive Tm where|lf(i:Fin 7)|un(b:Bool)(t:Tm)|bi(b:Bool)(s t:Tm)
noncomputable instance:DecidableEq Tm:=λd p=>F_<|d=p
noncomputable def cD(i:Fin 7):List Nat:=([[120],[121],[48],[49],[45,51],[57],[52]]:List<|List Nat).getD i []
@[elab_as_elim]theorem sz{P:Fin 7->Prop}(i:Fin 7)(a:P 0)(aa:P 1)(S:P 2)(w:P 3)(j:P 4)(d:P 5)(e:P 6):P i:=by
 obtain⟨i,h⟩:=i;iterate 7(induction i using OR with|zero=>assumption|succ i=>_)
 exact aJ h<|aB 0x3d53a5c14b8297052e0a5c14b82970520 rfl
@[elab_as_elim]theorem zA{P:Nat->Prop}{i:Nat}(h:i<6)(a:P 0)(aa:P 1)(S:P 2)(w:P 3)(j:P 4)(d:P 5):P i:=by
 iterate 6(induction i using OR with|zero=>assumption|succ i=>_)
 exact aJ h<|aB 0x7aa64b8297052e0a5c14b82970520 rfl
@[elab_as_elim]theorem zB{P:Nat->Prop}{i:Nat}(h:i<7)(a:P 0)(aa:P 1)(S:P 2)(w:P 3)(j:P 4)(d:P 5)(e:P 6):P i:=by
 iterate 7(induction i using OR with|zero=>assumption|succ i=>_)
 exact aJ h<|aB 0x3d53a5c14b8297052e0a5c14b82970520 rfl
noncomputable def a7:Sh->List Nat|.lf i=>cD i|.un p=>if p then[102]else[110,101,103]|.bi p=>if p then[109,117,108]else[97,100,100]
noncomputable def Tm.sh:Tm->Sh|.lf i=>.lf i|.un p _=>.un p|.bi p _ _=>.bi p
noncomputable def Tm.kids:Tm->List Tm|.lf _=>[]|.un _ t=>[t]|.bi _ r t=>[r,t]
noncomputable def Sh.ar:Sh->Nat|.lf _=>0|.un _=>1|.bi _=>2
noncomputable def Tm.toV:Tm->V|.lf i=>.tup [.str<|cD i]|.un p t=>.tup [.str<|a7<|.un p,t.toV]|.bi p r t=>.tup [.str<|a7<|.bi p,r.toV,t.toV]
theorem iE(t:Tm):t.toV=.tup (.str (a7 t.sh)::t.kids.map Tm.toV):=by induction t<;>rfl
theorem mj(t:Tm):t.kids.length=t.sh.ar:=by induction t<;>rfl
theorem sA:∀i a,cD i=cD a->i=a:=by decide
theorem jz(h:a7 d=a7 p):d=p:=by
 have l1:∀i,∀c,cD i≠a7 (.un c):=by decide
 have l2:∀i,∀c,cD i≠a7 (.bi c):=by decide
 have l3:∀p c,a7 (.un p)=a7 (.un c)->p=c:=by decide
 have b:∀p c,a7 (.bi p)=a7 (.bi c)->p=c:=by decide
 have l5:∀p c,a7 (.un p)≠a7 (.bi c):=by decide
 induction d<;>induction p;.rw[sA _ _ h]
 .exact aJ h<|l1 _ _
 .exact aJ h<|l2 _ _
 .exact aJ h.symm<|l1 _ _
 .rw[l3 _ _ h]
 .exact aJ h<|l5 _ _
 .exact aJ h.symm<|l2 _ _
 .exact aJ h.symm<|l5 _ _
 .rw[b _ _ h]
theorem dP(d:Sh):∀c∈a7 d,c<128:=by
 have l0:∀i,∀c∈cD i,c<128:=by decide
 have l1:∀p,∀c∈a7<|.un p,c<128:=by decide
 have l2:∀p,∀c∈a7<|.bi p,c<128:=by decide
 induction d;.exact l0 _
 .exact l1 _
 .exact l2 _
theorem Tm.ext{d p:Tm}(h:d.sh=p.sh)(k:d.kids=p.kids):d=p:=by induction d with
 |lf i=>induction p with|lf a=>exact aY Tm.lf<|by injection h|un=>injection h|bi=>injection h
 |un c t=>induction p with|lf a=>injection h|un c' t'=>rw[(Jw k).1];exact aY (Tm.un · t')<|by injection h|bi=>injection h
 |bi c r t=>induction p with|lf a=>injection h|un=>injection h|bi c' s' t'=>rw[(Jw k).1,(Jw (Jw k).2).1];exact aY (Tm.bi · s' t')<|by injection h
theorem kN{d p:Tm}(h:d.toV=p.toV):d=p:=by induction d generalizing p with
 |lf i=>induction p with|lf a=>injection h with h;injection h with h _;injection h with h;rw[sA _ _ h]|un c t=>injection h with h;injection h with _ h;cases h|bi c r t=>injection h with h;injection h with _ h;cases h
 |un c t ih=>induction p with|lf a=>injection h with h;injection h with _ h;cases h|un c' t'=>injection h with h;injection h with J L;injection J with J;injection L with L _;rw[ih L];cases jz J;rfl|bi c r t=>injection h with h;injection h with _ h;injection h with _ h;cases h
 |bi c r t m j=>induction p with|lf a=>injection h with h;injection h with _ h;cases h|un c' t'=>injection h with h;injection h with _ h;injection h with _ h;cases h|bi c' s' t'=>injection h with h;injection h with J L;injection J with J;injection L with L b;injection b with b _;rw[m L,j b];cases jz J;rfl
noncomputable def Tm.dp:Tm->Nat|.lf _=>0|.un _ t=>t.dp+1|.bi _ r t=>max r.dp t.dp+1
theorem jA{t k:Tm}(h:k∈t.kids):k.dp<t.dp:=by induction t with|lf i=>exact(Ez h).elim|un p t=>exact ta.mp h▸Fq _|bi p r t=>
  rcases EG.mp h with rfl|h;.exact FD<|Jb _ _
  .exact ta.mp h▸FD (IL _ _)
theorem oz{l:Nat}{t:Tm}(h:t.dp<l):PureN l t.toV:=by induction t generalizing l with
 |lf i=>refine ax (F9<|EW<|ER (E8 _) h) λy s=>?_;clear h;subst s;refine .tup _ _ λx E=>ta.mp E▸.str _ _ (dP<|.lf i)|un p t ih=>
  refine ax (F9<|EW<|ER (E8 _) h) λy s=>?_;subst s;refine .tup _ _ λx E=>?_;rcases EG.mp E with rfl|E;.exact .str _ _<|dP<|.un p
  .exact ta.mp E▸ih (Ic h)|bi p r t m j=>
  refine ax (F9<|EW<|ER (E8 _) h) λy s=>?_;subst s;have h:=Ic h;refine .tup _ _ λx E=>?_;rcases EG.mp E with rfl|E;.exact .str _ _<|dP<|.bi p
  .rcases EG.mp E with rfl|E;.exact m<|ER (Jb _ _) h
   .exact ta.mp E▸j (ER (IL _ _) h)
theorem zC{l:Nat}{t:Tm}(h:t.dp<l):KeyIn l t.toV:=by induction t generalizing l with
 |lf i=>refine ax (F9<|EW<|ER (E8 _) h) λy s=>?_;clear h;subst s;refine .tup _ _ λx E=>ta.mp E▸.str _ _ (dP<|.lf i)|un p t ih=>
  refine ax (F9<|EW<|ER (E8 _) h) λy s=>?_;subst s;refine .tup _ _ λx E=>?_;rcases EG.mp E with rfl|E;.exact .str _ _<|dP<|.un p
  .exact ta.mp E▸ih (Ic h)|bi p r t m j=>
  refine ax (F9<|EW<|ER (E8 _) h) λy s=>?_;subst s;have h:=Ic h;refine .tup _ _ λx E=>?_;rcases EG.mp E with rfl|E;.exact .str _ _<|dP<|.bi p
  .rcases EG.mp E with rfl|E;.exact m<|ER (Jb _ _) h
   .exact ta.mp E▸j (ER (IL _ _) h)
def em(r:Sh)(ks:List Nat):V:=.tup<|.str (a7 r)::aM ks
theorem sB(h:aM d=aM p):d=p:=by induction d generalizing p with
 |nil=>induction p with|nil=>rfl|cons u p=>cases h
 |cons x d ih=>induction p with|nil=>cases h|cons u p=>injection h with J L;injection J with J;rw[Gl.mp J,ih L]
theorem oA(h:em r ks=em s' a):r=s'/\ks=a:=by injection h with h;injection h with J L;injection J with J;exact⟨jz J,sB L⟩
theorem ml(r:Sh)(ks:List Nat):gF<|em r ks:=by
 refine⟨⟨_,rfl⟩,.tup _ _ λx E=>?_⟩;rcases EG.mp E with rfl|E;.exact .str _ _<|dP r
 .refine aA (EO.mp E) λl d s=>?_;subst s;exact .int _ _
def ix(B:List Tm)(t:Tm):Nat:=B.idxOf t
theorem fY(h:t∈B):ix B t<B.length:=List.idxOf_lt_length_iff.mpr h
theorem eu(h:t∈B):B[ix B t]?=j' t:=(EL<|fY h).trans<|aY j'<|List.getElem_idxOf<|fY h
theorem oB(ha:d∈B)(hb:p∈B)(h:ix B d=ix B p):d=p:=by have:=eu ha;rw[h,eu hb]at this;exact(EA this).symm
theorem oC(l:B.Nodup)(h:B[d]?=j' t):ix B t=d:=by refine ax (EN.mp h) λha s=>?_;clear h;subst s;exact l.idxOf_getElem d ha
def a2(B:List Tm)(t:Tm):List Nat:=t.kids.map<|ix B
def nd(B:List Tm)(t:Tm):V:=em t.sh<|a2 B t
def cr(B:List Tm):List<|V×V:=B.map λt=>(nd B t,.int (ix B t:Nat))
structure Bnk(adr:Ad)(O:RH)(B:List Tm):Prop where
 fm:B.Nodup
 cl:∀t∈B,∀k∈t.kids,k∈B
 bq:B.length<64
 b:∃dx,O 1=some (.inst 3 dx [(44,.ref<|adr 3),(45,.ref<|adr 4),(46,.ref<|adr 5),(47,.ref<|adr 6)])nodes:O 3=some (.list<|B.map<|nd B)ay:O 4=some (.dict<|cr B)
section
variable{t:Tm}
def oD(H:Hp)(l:Nat)(ov:V)(C:V->Hp->Prop):Prop:=match ov with|.str r=>l<=r.length/\r.length<=aR/\C (.str<|r.drop l) H|.tup z=>1<=l/\l<=z.length/\z.length<=aR/\C (.tup<|z.drop l) H|_=>False
theorem fE(k:am tab ab D m H λov H=>oD H l ov C):am tab ab (.d7 D l) m H C:=k
theorem fZ(h:z.length<1000)(q:C (.tup z) H):oD H 1 (.tup<|x::z) C:=⟨EM _,GF<|E8 _,a0 h,q⟩
theorem gm(t:Tm):t.kids.length<=2:=match t with|.lf _=>E8 _|.un _ _=>GV 1|.bi _ _ _=>EM 2
theorem zD(R:Rp Y al H)(Kk:Bnk Y al B)(ha:B[d]?=j' t)(q:C (.str<|a7 t.sh) H):CN (G+1) 18 [.ref<|Y 1,.int (d:Nat)] H C:=by refine ax Kk.b λdx hb=>?_;have hl:=(EN.mp ha).1;refine a6 (fn:=qh) rfl rfl<|aU<|aX<|aX<|ba rfl (R.get hb) rfl<|ac rfl<|fT (R.get Kk.nodes) (by rw[ET,ha];rfl) (hM Kk.bq hl)<|aG ?_;show av (d2 _ (0:Nat)) _;rw[g' rfl dd];exact q
theorem zE(R:Rp Y al H)(Kk:Bnk Y al B)(ha:B[d]?=j' t)(q:C (.tup<|aM<|a2 B t) H):CN (G+1) 19 [.ref<|Y 1,.int (d:Nat)] H C:=by refine ax Kk.b λdx hb=>?_;have hl:=(EN.mp ha).1;refine a6 (fn:=qi) rfl rfl<|aU<|fE<|aX<|ba rfl (R.get hb) rfl<|ac rfl<|fT (R.get Kk.nodes) (by rw[ET,ha];rfl) (hM Kk.bq hl)<|fZ ?_ q;rw[bV,a2,Ex];exact ER (gm t) dd
end
theorem iF:∀(z:List Nat)(i x u:Nat),z[i]?=j' u->(z.set i x).sum+u=z.sum+x|[],_,_,_,h=>aP h|d::z,0,x,u,h=>by obtain rfl:=EA h;simp only[List.set_cons_zero,HD];exact aT 0x59c07044e13820 rfl|d::z,i+1,x,u,h=>by have:=iF z i x u h;simp only[List.set_cons_succ,HD];exact gD 0x76ce1b844705c0259c313820 rfl this
structure St where
 B:List Tm
 par:List Nat
 ak:List (List Nat)U:List (List Nat)Kk:List (V×V)W:List Nat
 c:Nat
noncomputable def St.n(S:St):Nat:=S.B.length
abbrev St.rt(S:St)(d:Nat):Nat:=bW S.par d
noncomputable def tot(U:List<|List Nat):Nat:=(U.map Hk).sum
structure Wf(S:St):Prop where
 P:Par S.par S.n
 ll:S.ak.length=S.n
 ak:∀r,r<S.n->S.rt r=r->∀l,S.ak[r]?=some l->l.Nodup/\∀m,m∈l↔m<S.n/\S.rt m=r
 ul:S.U.length=S.n
 u:∀l∈S.U,∀m∈l,m<S.n
 ut:tot S.U<=42
 w:∀m∈S.W,m<S.n
 k:∀e∈S.Kk,∃s ks m,e=(em s ks,.int (m:Nat))/\m<S.n
def oE(al:RH)(o:Nat)(l:Nat):Prop:=∃z,al o=j' (.list z)/\z.length=l
def sC(Y:Ad)(al:RH)(o:Nat)(m:List Nat)(v:V):Prop:=v=.lst (aM m)\/v=.ref (Y<|31+2*o)/\al (31+2*o)=j' (.list<|aM m)
structure HS(adr:Ad)(O:RH)(S:St):Prop where
 wf:Wf S
 bk:Bnk adr O S.B
 un:Uns adr O S.par S.n
 h:∃dx,O 0=some (.inst 5 dx [(53,.ref<|adr 1),(54,.ref<|adr 2),(55,.ref<|adr 10),(56,.ref<|adr 11),(57,.ref<|adr 12),(49,.ref<|adr 13),(37,.ref<|adr 14)])ak:O 8=some (.list<|c1 adr S.n)ew:∀i l,S.ak[i]?=some l->O (30+2*i)=some (.list<|aM l)known:O 12=some (.dict S.Kk)above:∃A,O 13=some (.dict A)/\d' A/\A.length<=100/\∀r l,S.rt r=r->S.U[r]?=some l->∃v,dget A (.int (r:Nat))=some v/\sC adr O r l v
 wait:O 14=some (.list<|aM S.W)cp:∃e f m,oE O 10 e/\oE O 11 f/\oE O 9 m/\e+f+m+S.Kk.length+S.W.length+200*S.par.sum<=S.c
 c:S.c<=100000
def HR(o:Nat):Prop:=o<=14\/30<=o
def Fr(al O':RH):Prop:=∀o,¬HR o->O' o=al o
section
variable{G:Nat}{Y:Ad}{al:RH}{H:Hp}{C:V->Hp->Prop}{S:St}{d p:Nat}{t:Tm}
theorem HS.bq(h:HS Y al S):S.n<64:=h.bk.bq
theorem iG(R:Rp Y al H)(h:HS Y al S)(ha:d<S.n)(q:C (.int (S.rt d:Nat)) H):CN (G+2) 32 [.ref<|Y 0,.int (d:Nat)] H C:=by refine ax h.h λdx hh=>ax h.un.u λaa hu=>a6 (fn:=qt) rfl rfl<|aU<|dO rfl (R.get hh) rfl (R.get hu) rfl rfl<|ap<|ac rfl<|aH<|mf R h.un ha q
def bv(S:St)(t:Tm):V:=em t.sh<|(a2 S.B t).map S.rt
theorem oF(cl:∀t∈B,∀k∈t.kids,k∈B)(h:t∈B):∀k∈a2 B t,k<B.length:=λk X=>by refine aA (EO.mp X) λx E s=>?_;clear X;subst s;exact fY<|cl t h x E
def oG(H:Hp)(v:V)(C:V->Hp->Prop):Prop:=av (bT H v) λz=>z.length<=aR/\C (.tup z) H
theorem hj(k:am tab ab x m H λv H=>oG H v C):am tab ab (.cg x) m H C:=k
theorem iH(h:z.length<=1000)(q:C (.tup z) H):oG H (.lst z) C:=⟨a0 h,q⟩
theorem sD(h:z.length<=1000)(q:C (.tup z) H):oG H (.tup z) C:=⟨a0 h,q⟩
theorem sE(R:Rp Y al H)(h:HS Y al S)(ha:S.B[d]?=j' t)(q:C (bv S t) H):CN (G+3) 28 [.ref<|Y 0,.int (d:Nat)] H C:=by
 refine ax h.h λdx hh=>ax h.bk.b λa8 hb=>?_;have ht:t∈S.B:=E0 ha;have kl:(a2 S.B t).length<=2:=by rw[a2,Ex];exact gm t
 refine a6 (fn:=qr) rfl rfl<|aU<|bF<|bO<|ap<|dO rfl (R.get hh) rfl (R.get hb) rfl rfl<|ap<|ac rfl<|aH<|zD (G:=G+1) R h.bk ha<|aH<|hj<|c4<|ce<|dO rfl (R.get hh) rfl (R.get hb) rfl rfl<|ap<|ac rfl<|aH<|zE (G:=G+1) R h.bk ha ?_;refine⟨a0<|by rw[bV];exact ED ‹_› dd,fX (λ(k:Nat)=>V.int k) (λ(k:Nat)=>V.int (S.rt k:Nat)) (λk X kY q=>bE rfl (R.get hh) rfl rfl<|ap<|ac rfl<|aH<|iG R h (oF h.bk.cl ht k X) q) ?_⟩
 .refine iH (by rw[Ir,Ex];exact ED ‹_› dd) ⟨a0<|by simp only[Ir,EH,Fi,Ik,Ex];exact aB 0xed3e85380e0a409a0920 rfl kl,?_⟩;have e:bv S t=.tup ([.str<|a7 t.sh]++([]++(a2 S.B t).map λ(k:Nat)=>V.int (S.rt k:Nat))):=by show V.tup (_::aM ((a2 S.B t).map S.rt))=_;unfold aM;rw[Fb];rfl
  exact e▸q
theorem sF(R:Rp Y al H)(h:HS Y al S)(q:C (.lst<|aM<|(E3 S.n).filter λd=>decide<|S.rt d=d) H):CN (G+2) 36 [.ref<|Y 0] H C:=by refine ax h.h λdx hh=>ax h.un.u λaa hu=>a6 (fn:=qy) rfl rfl<|aU<|dO rfl (R.get hh) rfl (R.get hu) rfl rfl<|aH<|zy R h.un q
theorem oH(h:HS Y al S)(ha:d<S.n):∃m,S.ak[d]?=j' m:=⟨_,EL<|h.wf.ll▸ha⟩
theorem jB(h:HS Y al S)(ha:d<S.n):∃m,S.U[d]?=j' m:=⟨_,EL<|h.wf.ul▸ha⟩
theorem oI(ha:d<l):(c1 Y l)[d]?=j' (.ref<|Y<|30+2*d):=by unfold c1;rw[ET,GJ ha];rfl
theorem iI{m:List Nat}{l:Nat}(h:m.Nodup)(hl:∀y∈m,y<l):m.length<=l:=by have:=h.length_le_of_subset (l₂:=E3 l) λy hm=>F3.mpr<|hl y hm;rwa[Fo]at this
theorem zF(R:Rp Y al H)(h:HS Y al S)(ha:d<S.n)(q:∀ms,(∀y,y∈ms↔y<S.n/\S.rt y=S.rt d)->ms.length<64->C (.lst<|aM ms) H):CN (G+3) 37 [.ref<|Y 0,.int (d:Nat)] H C:=by refine ax h.h λdx hh=>ax h.un.u λaa hu=>?_;have O:S.rt d<S.n:=dW ha;refine ax (oH h O) λm hl=>aN (h.wf.ak _ O (dV h.un.P d) m hl) λhn hm=>?_;have aw:=iI hn λy x=>((hm y).mp x).1;have bq:=h.bq;refine a6 (fn:=qz) rfl rfl<|aU<|dO rfl (R.get hh) rfl (R.get hu) rfl rfl<|ap<|ac rfl<|aH<|a6 (fn:=qo) rfl rfl<|aU<|jy<|aX<|ba rfl (R.get hu) rfl<|bE rfl (R.get hu) rfl rfl<|ap<|ac rfl<|aH<|mf R h.un ha<|fT (R.get h.ak) (oI O) (hM bq O)<|kF (ns:=m) ?_ (ER ‹_› ‹_›) λms pm p=>q ms (λy=>pm.mem_iff.trans<|hm y)<|pm.length_eq▸ER ‹_› ‹_›;exact(mi<|R.get<|h.ew _ _ hl).symm▸rfl
def mn(H:Hp)(v:V)(C:V->Hp->Prop):Prop:=av (bP H v) λz=>z.length<64/\((∃is,ca z=j' is/\∀js:List Int,js.Pairwise (·<·)->(∀a,a∈js↔a∈is)->C (.lst<|js.map V.int) H)\/(∀x∈z,∃(r:List Nat)(is:List Int),(∀c∈r,c<128)/\x=.tup (.str r::is.map V.int))/\∀ys:List V,ys.Nodup->(∀u,u∈ys↔u∈z)->C (.lst ys) H)
theorem oJ(k:am tab ab x m H λv H=>mn H v C):am tab ab (.sset x) m H C:=k
theorem sG(hv:bP H v=j' (aM ns))(h:ns.length<64)(q:∀ms,ms.Pairwise (·<·)->(∀y,y∈ms↔y∈ns)->C (.lst<|aM ms) H):mn H v C:=by
 unfold mn;rw[hv];refine⟨by rwa[bV],.inl ⟨_,sn ns,λjs hp hj=>?_⟩⟩;have h0:∀a∈js,0<=a:=λa m=>by refine aA (EO.mp<|(hj a).mp m) λl d s=>?_;clear m;subst s;exact Gh _
 rw[so h0];refine q _ ?_ λy=>?_;.rw[HY];exact hp.imp_of_mem λ{x u}E _ h=>(Oo<|E7 (h0 x E) h).mpr h
 .constructor;.intro hm;refine aA (EO.mp hm) λa m s=>?_;subst s;refine aA (EO.mp<|(hj a).mp m) λl hn s=>?_;clear m hm;subst s;exact hn
  .intro hm;exact EO.mpr ⟨(y:Int),(hj y).mpr<|EO.mpr ⟨y,hm,rfl⟩,rfl⟩
theorem zG{ts:List Tm}{w:Tm->List Nat}(h:ts.length<64)(q:∀ys:List V,(∀u,u∈ys↔∃t∈ts,u=em t.sh (w t))->ys.length<64->C (.lst ys) H):mn H (.lst<|ts.map λt=>em t.sh<|w t) C:=by
 refine⟨by rwa[Ex],.inr ⟨λx E=>?_,λys hn hy=>q ys (λu=>(hy u).trans ?_) ?_⟩⟩;rotate_left 2;.have:=hn.length_le_of_subset λu h=>(hy u).mp h;rw[Ex]at this;exact ER ‹_› ‹_›
 .refine aA (EO.mp E) λt c s=>?_;clear E;subst s;exact dR _ ((w t).map λ(l:Nat)=>(l:Int)) (dP _)<|by rw[<-sm];rfl
 .rw[EO];exact⟨λ⟨t,d,p⟩=>⟨t,d,p.symm⟩,λ⟨t,d,p⟩=>⟨t,d,p.symm⟩⟩
theorem jC(ha:d<S.n):S.B[d]?=j' (S.B.getD d<|.lf 0):=by rw[E9,EL ha];rfl
theorem zH(R:Rp Y al H)(h:HS Y al S)(ha:d<S.n)(q:∀ys:List V,(∀u,u∈ys↔∃y,y<S.n/\S.rt y=S.rt d/\∃t,S.B[y]?=j' t/\u=bv S t)->ys.length<64->C (.lst ys) H):CN (G+4) 38 [.ref<|Y 0,.int (d:Nat)] H C:=by
 refine ax h.h λdx hh=>a6 (fn:=qA) rfl rfl<|aU<|oJ<|c4<|ce<|bE rfl (R.get hh) rfl rfl<|ap<|ac rfl<|aH<|zF R h ha λms hm ml=>⟨a0<|by rw[bV];exact ED (Fa ‹_›) dd,fX (λ(k:Nat)=>V.int k) (λ(k:Nat)=>bv S<|S.B.getD k<|.lf 0) (λk X kY q=>bE rfl (R.get hh) rfl rfl<|ap<|ac rfl<|aH<|sE R h (jC ((hm k).mp X).1) q) ?_⟩;have e:[]++(ms.map λ(k:Nat)=>bv S<|S.B.getD k<|.lf 0)=(ms.map λk=>S.B.getD k<|.lf 0).map λt=>em t.sh<|(a2 S.B t).map S.rt:=by rw[Fb];rfl
 rw[e];refine zG (by rwa[Ex]) λys hy hl=>q ys (λu=>(hy u).trans ⟨?_,?_⟩) hl;.intro s;refine aA s λt ht z2=>?_;clear s;subst z2;refine aA (EO.mp ht) λy aj s=>?_;clear ht;subst s;refine aN ((hm y).mp aj) λJ L=>⟨y,J,L,_,jC J,rfl⟩
 .intro s;refine a4 s λy J L z2=>aA z2 λt ht z3=>?_;clear s;clear z2;subst z3;refine bm t (EO.mpr ⟨y,(hm y).mpr ⟨J,L⟩,?_⟩) rfl;rw[E9,ht];rfl
theorem iJ{m:List Nat}{o:Nat}(h:Wf S)(hl:S.U[o]?=j' m):m.length<=42:=by refine ED ?_ h.ut;unfold tot;have:=iF (S.U.map Hk) o 0 m.length (by rw[ET,hl];rfl);exact aT 0xed041b380913820 rfl this
theorem zI(R:Rp Y al H)(h:HS Y al S)(O:S.rt o=o)(hl:S.U[o]?=j' m)(q:∀v,bP H v=j' (aM m)->P v):fL H (.ref<|Y 13) (.int (o:Nat)) P:=by
 refine b5 h.above λN A ik d hg=>aA (hg o m O hl) λv hv hu=>gk (R.get A) (cC ik _) hv<|q v ?_;clear hv;rcases hu with rfl|⟨rfl,ho⟩;.rfl
 .exact mi<|R.get ho
theorem zJ(R:Rp Y al H)(h:HS Y al S)(ha:d<S.n){m:List Nat}(hl:S.U[S.rt d]?=j' m)(q:∀ms,ms.Pairwise (·<·)->(∀y,y∈ms↔y∈m)->C (.lst<|aM ms) H):CN (G+3) 39 [.ref<|Y 0,.int (d:Nat)] H C:=by refine ax h.h λdx hh=>a6 (fn:=qB) rfl rfl<|aU<|oJ<|aX<|ba rfl (R.get hh) rfl<|bE rfl (R.get hh) rfl rfl<|ap<|ac rfl<|aH<|iG R h ha<|zI R h (dV h.un.P d) hl λv hv=>sG hv (ER (iJ h.wf hl) dd) q
end
section
variable{A:Fl->aL->Hp->Prop}
theorem bA(h:bS tab ab c m H λq H=>if q then aV tab ab d m H λw m H=>match w with|.nx=>aV tab ab o m H A|.rt v=>A (.rt v) m H else aV tab ab o m H A):aV tab ab (.cons (.be c d .nil) o) m H A:=h
end
section
variable{C:V->Hp->Prop}
def oK(H:Hp)(o:Nat)(v:V)(Kk:Hp->Prop):Prop:=av (H o) λob=>match ob with|.list z=>z.length<aR/\Kk (H.set o<|.list<|z++[v])|_=>False
theorem gn(O:H o=j' (.list z))(ke:am tab ab e m H λv H'=>oK H' o v λH'=>C .none H')(ho:∀P,P (.ref o) H->am tab ab D m H P):am tab ab (.append D e) m H C:=ho _ ⟨⟨z,O⟩,ke⟩
theorem gu(O:H o=j' (.list z))(hl:z.length<aR)(q:Kk<|H.set o<|.list<|z++[v]):oK H o v Kk:=by unfold oK;exact O▸⟨hl,q⟩
def oL(H:Hp)(o:Nat)(v:V)(Kk:Hp->Prop):Prop:=av (bP H v) λys=>av (H o) λob=>match ob with|.list z=>z.length+ys.length<=aR/\Kk (H.set o<|.list<|z++ys)|_=>False
theorem sH(O:H o=j' (.list z))(ke:am tab ab e m H λv H'=>oL H' o v λH'=>C .none H')(ho:∀P,P (.ref o) H->am tab ab D m H P):am tab ab (.extend D e) m H C:=ho _ ⟨⟨z,O⟩,ke⟩
theorem sI(hv:bP H v=j' ys)(O:H o=j' (.list z))(hl:z.length+ys.length<=aR)(q:Kk<|H.set o<|.list<|z++ys):oL H o v Kk:=by unfold oL;rw[hv];show av (H o) _;exact O▸⟨hl,q⟩
theorem zK(E:bP H x=j' z)(hy:bP H u=j' ys)(hl:(z++ys).length<=aR)(q:P<|.lst<|z++ys):fd H .add x u P:=by have h:av (bP H x) λr=>av (bP H u) λt=>(r++t).length<=aR/\P (.lst<|r++t):=E▸hy▸⟨hl,q⟩;induction x using Mine.Internal.V.casesOn with|lst _=>exact h|ref _=>exact h|_=>exact aP E
theorem gQ{D i:an}{v:V}{C:aL->Hp->Prop}(k:am tab ab D m H λov H=>am tab ab i m H λQ H=>h4 ov Q v H λH=>C m H):bY tab ab (.sub D i) v m H C:=k
theorem sJ{o l:Nat}{z:List V}{v:V}{C:Hp->Prop}(O:H o=j' (.list z))(hn:l<z.length)(hm:l<1000000)(q:C<|H.set o<|.list<|z.set l v):h4 (.ref o) (.int (l:Int)) v H C:=by show av (H o) _;exact O▸⟨Gh _,hn,aB 0x3b8f424022e40afa1201160 rfl hm,q⟩
theorem hN{o:Nat}{f:List<|V×V}{k v:V}{C:Hp->Prop}(O:H o=j' (.dict f))(X:bD f k)(hl:f.length<=aR)(q:C<|H.set o<|.dict<|bC f k v):h4 (.ref o) k v H C:=by show av (H o) _;exact O▸⟨X,hl,q⟩
def oM(H:Hp)(o:Nat)(kv:V)(C:V->Hp->Prop):Prop:=av (H o) λob=>match ob with|.dict f=>g4 kv/\bD f kv/\f.length<=aR/\av (dget f kv) λv=>C v<|H.set o<|.dict<|cc f kv|_=>False
theorem sK(O:H o=j' (.dict f))(ke:am tab ab e m H λkv H=>oM H o kv C)(ho:∀P,P (.ref o) H->am tab ab D m H P):am tab ab (.d9 D e) m H C:=ho _ ⟨⟨f,O⟩,ke⟩
theorem sL(O:H o=j' (.dict f))(X:d' f)(hl:f.length<=aR)(hv:dget f (.int i)=j' v)(q:C v<|H.set o<|.dict<|cc f<|.int i):oM H o (.int i) C:=by unfold oM;rw[O];refine⟨⟨i,rfl⟩,cC X i,hl,?_⟩;exact hv▸q
end
noncomputable def da(S:St)(k g:Nat):St:={S with
 par:=S.par.set g k
 ak:=S.ak.set k<|S.ak.getD k []++S.ak.getD g []
 U:=(S.U.set k<|S.U.getD k []++S.U.getD g []).set g []
 W:=S.W++S.U.getD g []}
section
variable{S:St}{d p k g:Nat}
theorem eb{α:Type}{z:List α}{i:Nat}{x u:α}(h:z[i]?=j' x):z.getD i u=x:=by rw[E9,h];rfl
theorem mo{α:Type}{z:List α}{k g i:Nat}{x u M:α}(h:((z.set k x).set g u)[i]?=j' M):i=g/\M=u\/i≠g/\i=k/\M=x\/i≠g/\i≠k/\z[i]?=j' M:=by
 by_cases J:i=g;.subst J;have hl:=(EN.mp h).1;rw[Hz<|by rwa[HV]at hl]at h;exact .inl ⟨rfl,(EA h).symm⟩
 .rw[Hn<|HF J]at h;by_cases L:i=k;.subst L;have hl:=(EN.mp h).1;rw[Hz<|by rwa[HV]at hl]at h;exact .inr<|.inl ⟨J,rfl,(EA h).symm⟩
  .rw[Hn<|HF L]at h;exact .inr<|.inr ⟨J,L,h⟩
theorem mp{α:Type}{z:List α}{k i:Nat}{x M:α}(h:(z.set k x)[i]?=j' M):i=k/\M=x\/i≠k/\z[i]?=j' M:=by
 by_cases L:i=k;.subst L;have hl:=(EN.mp h).1;rw[Hz<|by rwa[HV]at hl]at h;exact .inl ⟨rfl,(EA h).symm⟩
 .rw[Hn<|HF L]at h;exact .inr ⟨L,h⟩
theorem Wf.mrg(A:Wf S)(hg:g<S.n)(X:k<g)(rk:S.rt k=k)(Q:S.rt g=g):Wf (da S k g)where
 P:=A.P.set hg<|Fa X
 ll:=by show(S.ak.set k _).length=S.n;rw[HV];exact A.ll
 ak o O R m hl:=by
  have rs:=ox A.P hg X Q rk;change bW (S.par.set g k) o=o at R;rw[rs]at R;have b:k<S.n:=GA X hg;have f:o≠g/\S.rt o=o:=by
   by_cases c:S.rt o=g;.rw[aF c]at R;rw[<-R,rk]at c;exact aJ c<|EP X
   .rw[aC c]at R;exact⟨λe=>c<|e▸Q,R⟩
  change(S.ak.set k _)[o]?=j' m at hl;obtain⟨lk,Z⟩:∃x,S.ak[k]?=j' x:=⟨_,EL<|A.ll▸b⟩;obtain⟨I,K⟩:∃x,S.ak[g]?=j' x:=⟨_,EL<|A.ll▸hg⟩;refine aN (A.ak k b rk lk Z) λj m1=>aN (A.ak g hg Q I K) λn2 m2=>?_;rw[eb Z,eb K]at hl;show m.Nodup/\∀y,y∈m↔y<S.n/\bW (S.par.set g k) y=o;refine(mp hl).elim (λM=>?_) λM=>aN M λc hl=>?_
  .rw[M.1,M.2];refine⟨Gd.mpr ⟨j,n2,λd ha p hb e=>?_⟩,λy=>?_⟩;.subst e;exact aJ (((m1 d).mp ha).2.symm.trans ((m2 d).mp hb).2)<|EP X
   .rw[E1,m1,m2,rs];by_cases c:S.rt y=g;.exact aF c▸c▸⟨λh=>⟨h.elim (·.1) (·.1),rfl⟩,λh=>.inr ⟨h.1,rfl⟩⟩
    .exact aC c▸⟨λh=>h.elim id λh=>aJ h.2 c,.inl⟩
  .refine aN (A.ak o O f.2 m hl) λl y=>⟨l,λx=>(y x).trans ?_⟩;rw[rs];by_cases e:S.rt x=g;.exact aF e▸e▸⟨λh=>aJ h.2.symm f.1,λh=>aJ h.2.symm c⟩
   .rw[aC e]
 ul:=by show((S.U.set k _).set g []).length=S.n;rw[HV,HV];exact A.ul
 u m hl y hm:=by
  refine ax (Gj.mp hl) λi hi=>?_;have V:∀a,∀y∈S.U.getD a [],y<S.n:=λa y hm=>by cases e:S.U[a]? with|none=>rw[E9,e]at hm;exact(Ez hm).elim|some x=>rw[eb e]at hm;exact A.u x (E0 e) y hm
  refine(mo hi).elim (λM=>?_) λM=>M.elim (λM=>?_) λM=>?_;.rw[M.2]at hm;exact(Ez hm).elim
  .rw[M.2.2]at hm;exact(E1.mp hm).elim (V k y)<|V g y
  .exact A.u m (E0 M.2.2) y hm
 ut:=by refine ED (Hx ?_) A.ut;have b:k<S.n:=GA X hg;obtain⟨lk,Z⟩:∃x,S.U[k]?=j' x:=⟨_,EL<|A.ul▸b⟩;obtain⟨I,K⟩:∃x,S.U[g]?=j' x:=⟨_,EL<|A.ul▸hg⟩;show tot ((S.U.set k _).set g [])=tot S.U;rw[eb Z,eb K];unfold tot;rw[Mr,Mr];have e1:=iF (S.U.map Hk) k (lk++I).length lk.length (by rw[ET,Z];rfl);have e2:=iF ((S.U.map Hk).set k (lk++I).length) g ([]:List Nat).length I.length (by rw[Hn<|EP X,ET,K];rfl);rw[EH]at e1 e2;rw[EH];rw[Ik]at e2⊢;exact gD 0x3bdb08967012070c967386113820 rfl e1 e2
 w y hm:=by
  refine(E1.mp hm).elim (λh=>?_) λh=>?_;.exact A.w y h
  .cases e:S.U[g]? with|none=>rw[E9,e]at h;exact(Ez h).elim|some x=>rw[eb e]at h;exact A.u x (E0 e) y h
 k:=A.k
theorem HS.iu(h:HS Y al S)(E:al 10=j' (.list z))(hc:S.c+1<=100000):HS Y (al.upd 10<|.list<|z++[v]) {S with c:=S.c+1}where
 wf:=⟨h.wf.P,h.wf.ll,h.wf.ak,h.wf.ul,h.wf.u,h.wf.ut,h.wf.w,h.wf.k⟩
 bk:=⟨h.bk.fm,h.bk.cl,h.bk.bq,h.bk.b,h.bk.nodes,h.bk.ay⟩
 un:=⟨h.un.P,h.un.bq,h.un.u,h.un.a⟩
 h:=h.h
 ak:=h.ak
 ew i m hl:=(RH.aa<|aB 0x7aca4b980127c9 rfl).trans<|h.ew i m hl
 known:=h.known
 above:=by refine b5 h.above λN J L b h4=>ee N J L b λo m O hl=>?_;refine aA (h4 o m O hl) λv h5 h6=>bm v h5<|h6.imp id λh=>⟨h.1,(RH.aa<|aB 0x7aca4b980127e9 rfl).trans h.2⟩
 wait:=h.wait
 cp:=by refine dJ h.cp λe w y s z2 z3 h7=>aA s λys J L=>aA z2 λf' b h4=>aA z3 λm' h5 h6=>?_;obtain rfl:=c2.list.inj<|EA<|E.symm.trans J;clear J;refine h2 (e+1) w y ⟨_,RH.ae,EH▸L▸rfl⟩ ⟨f',b,h4⟩ ⟨m',h5,h6⟩ ?_;show e+1+w+y+S.Kk.length+S.W.length+200*S.par.sum<=S.c+1;exact zc 0x1da3829339853214e2386e1382e0a414339853214e2386e13820 [_,_,_,_,_,_,_] rfl h7
 c:=hc
theorem jD(P:Par S.par S.n)(d p:Nat):S.rt (min (S.rt d)<|S.rt p)=min (S.rt d) (S.rt p):=by
 refine(Jm (S.rt d)<|S.rt p).elim (λc=>?_) λc=>?_;.exact(IZ c).symm▸dV P d
 .exact(IG c).symm▸dV P p
theorem jE(P:Par S.par S.n)(d p:Nat):S.rt (max (S.rt d)<|S.rt p)=max (S.rt d) (S.rt p):=by
 refine(Jm (S.rt d)<|S.rt p).elim (λc=>?_) λc=>?_;.exact(Ia c).symm▸dV P p
 .exact(JB c).symm▸dV P d
theorem zL(R:Rp Y al H)(h:HS Y al S)(ha:d<S.n)(hb:p<S.n){z:List V}(E:al 9=j' (.list z))(hl:z.length<aR)(q0:S.rt d=S.rt p->C .none H)(q:∀k g,S.rt d≠S.rt p->k=min (S.rt d) (S.rt p)->g=max (S.rt d) (S.rt p)->∀H',Rp Y (((al.upd 7<|.list<|aM<|S.par.set g k).upd (30+2*k)<|.list<|aM<|S.ak.getD k []++S.ak.getD g []).upd 9<|.list<|z++[.tup [.int (k:Nat),.int (g:Nat)]]) H'->C (.tup [.int (k:Nat),.int (g:Nat)]) H'):CN (G+2) 24 [.ref<|Y 2,.int (d:Nat),.int (p:Nat)] H C:=by
 refine ax h.un.u λaa hu=>?_;have a:=R.get hu;have bq:=h.bq;have i:S.rt d<S.n:=dW ha;have l:S.rt p<S.n:=dW hb;refine a6 (fn:=qn) rfl rfl<|b4<|jy<|fW<|ap<|bE rfl a rfl rfl<|ap<|ac rfl<|aH<|mf R h.un ha<|ap<|bE rfl a rfl rfl<|ap<|ac rfl<|aH<|mf R h.un hb<|aH<|kF (ns:=[S.rt d,S.rt p]) rfl (show 2<64 by decide) λms pm st=>?_;rw[sv pm st];have rk:=jD h.un.P d p;have Q:=jE h.un.P d p;have mm:S.rt d=S.rt p\/min (S.rt d) (S.rt p)<max (S.rt d) (S.rt p):=aE 0x72b10820105820 rfl;have w:max (S.rt d) (S.rt p)<S.n:=Md.mpr ⟨i,l⟩;have ay:S.rt d=S.rt p->min (S.rt d) (S.rt p)=max (S.rt d) (S.rt p):=aE 0x76d10820105820 rfl;replace q:=λc=>q _ _ c rfl rfl;generalize min (S.rt d) (S.rt p)=k at*;generalize max (S.rt d) (S.rt p)=g at*;refine⟨rfl,rfl,bA<|aW<|ac rfl<|ac rfl<|gP ?_⟩;by_cases c:S.rt d=S.rt p;.rw[dI<|by rw[ay c]];exact aU<|aG<|q0 c
 .have b:=GA (mm.resolve_left c) w;rw[ga<|by exact cy 0x77becc87217ac1072a315820 rfl mm c];have R1:=R.set h.un.a<|.list<|aM<|S.par.set g k;refine b4<|ac rfl<|gQ<|ba rfl a rfl<|ac rfl<|sJ (R.get h.un.a) (by rw[bV,h.un.P.len];exact w) (hM bq w) ?_;have f:(aM S.par).set g (.int (k:Nat))=aM (S.par.set g k):=by unfold aM;rw[Mr]
  rw[f];generalize H.set (Y 7) (.list<|aM<|S.par.set g k)=aq at R1⊢;refine ax (oH h b) λlk Z=>ax (oH h w) λI K=>?_;have n2:∀{o D},o≠7->al o=j' D->aq (Y o)=j' D:=λ{o D}O e=>R1.get<|(RH.aa O).trans e;have gk:=n2 (EW<|Ew dd<|EB _ _)<|h.ew k lk Z;have n:=n2 dd h.ak;have a:=n2 dd hu;refine co<|sH gk (aX<|ba rfl a rfl<|ac rfl<|fT n (oI w) (hM bq w)<|sI (mi<|n2 (EW<|Ew dd<|EB _ _)<|h.ew g I K) gk (a0<|by rw[bV,bV];exact aT 0x1def69f429c20d002a003510140 rfl bq (iI (h.wf.ak k b rk lk Z).1 λy x=>(((h.wf.ak k b rk lk Z).2 y).mp x).1)<|iI (h.wf.ak g w Q I K).1 λy x=>(((h.wf.ak g w Q I K).2 y).mp x).1) ?_) λP j=>aX<|ba rfl a rfl<|ac rfl<|fT n (oI b) (hM bq b) j;rw[<-g_];have R2:=R1.set (o:=30+2*k) ((RH.aa<|EW<|Ew dd<|EB _ _).trans<|h.ew k lk Z)<|.list<|aM<|lk++I;generalize aq.set (Y<|30+2*k) (.list<|aM<|lk++I)=H2 at R2⊢;have o9:((al.upd 7<|.list<|aM<|S.par.set g k).upd (30+2*k)<|.list<|aM<|lk++I) 9=j' (.list z):=(RH.aa<|EP<|Ew dd<|EB _ _).trans E;have a:H2 (Y 2)=_:=R2.get<|(RH.aa<|EP<|Ew dd<|EB _ _).trans hu;refine co<|gn (R2.get o9) (bO<|ap<|ac rfl<|ap<|ac rfl<|aH<|gu (R2.get o9) hl ?_) λP j=>ba rfl a rfl j;refine aU<|bO<|ap<|ac rfl<|ap<|ac rfl<|aH<|q c _ ?_;exact eb Z▸eb K▸R2.set o9 _
end
section
variable{d p k g:Nat}
theorem HS.mrg(h:HS Y al S)(hg:g<S.n)(X:k<g)(rk:S.rt k=k)(Q:S.rt g=g)(A:al 13=j' (.dict N))(hm:al 9=j' (.list y))(hf:al 11=j' (.list w))(hc:S.c<=c'+150)(am:c'<=100000)(e:∀o,o≠7/\o≠30+2*k/\o≠9/\o≠11/\o≠14/\o≠13->O' o=al o)(af:O' 7=j' (.list<|aM (da S k g).par))(ek:O' (30+2*k)=j' (.list<|aM<|S.ak.getD k []++S.ak.getD g []))(a:O' 9=j' (.list<|y++[x]))(ax:O' 11=j' (.list<|w++[u]))(b5:O' 14=j' (.list<|aM (da S k g).W))(a4:O' 13=j' (.dict<|bC (cc N<|.int (g:Nat)) (.int (k:Nat))<|.lst<|aM<|S.U.getD k []++S.U.getD g [])):HS Y O' {da S k g with c:=c'}where
 wf:=⟨(h.wf.mrg hg X rk Q).P,(h.wf.mrg hg X rk Q).ll,(h.wf.mrg hg X rk Q).ak,(h.wf.mrg hg X rk Q).ul,(h.wf.mrg hg X rk Q).u,(h.wf.mrg hg X rk Q).ut,(h.wf.mrg hg X rk Q).w,h.wf.k⟩
 bk:=⟨h.bk.fm,h.bk.cl,h.bk.bq,e 1 (aB 0x37bdef7eb35214face4853eb2d214fac94853eb3980127c90a7d63a429 rfl)▸h.bk.b,(e 3<|aB 0x37bdef7eb35234face48d3eb2d234fac948d3eb3980127c91a7d63a469 rfl).trans h.bk.nodes,(e 4<|aB 0x37bdef7eb35244face4913eb2d244fac94913eb3980127c9227d63a489 rfl).trans h.bk.ay⟩
 un:=⟨(h.wf.mrg hg X rk Q).P,h.un.bq,e 2 (aB 0x37bdef7eb35224face4893eb2d224fac94893eb3980127c9127d63a449 rfl)▸h.un.u,af⟩
 h:=e 0 (aB 0x37bdef7eb35204face4813eb2d204fac94813eb3980127c9027d63a409 rfl)▸h.h
 ak:=(e 8<|aB 0x37bdef7eb35284face4a13eb2d284fac94a13eb3980127c9427d63a509 rfl).trans h.ak
 ew i m hl:=by
  refine(mp hl).elim (λM=>?_) λM=>aN M λc hl=>?_;.rw[M.1,M.2];exact ek
  .exact e _ (aE 0x1ddef7bdfacd4b980127c9f59c9730024f93eb2d2e60049f27d64a5cc0093e4face60449f25cc0093e4fac74b980127c9f5820 rfl c)▸h.ew i m hl
 known:=(e 12<|aB 0x37bdef7eb352c4face4b13eb2d2c4fac94b13eb3980127c9627d63a589 rfl).trans h.known
 above:=by
  refine Mine.Internal.b5 h.above λA' J L b h4=>?_;obtain rfl:=c2.dict.inj<|EA<|A.symm.trans J;clear J;refine ee _ a4 ((L.ddel _).dput _ _) ?_ λo m O hl=>?_;.obtain⟨lk,Z⟩:=jB h<|GA X hg;refine aA (h4 k lk rk Z) λv hv d=>?_;rw[sq,sr λe=>by injection e with e;exact aE 0x77bacc83205420 rfl X e,hv];exact ED (ss _ _) b
  .change bW (S.par.set g k) o=o at O;rw[ox h.un.P hg X Q rk o]at O;have f:o≠g/\S.rt o=o:=by
    by_cases c:S.rt o=g;.rw[aF c]at O;rw[<-O,rk]at c;exact aJ c<|EP X
    .rw[aC c]at O;exact⟨λe=>c<|e▸Q,O⟩
   refine(mo hl).elim (λM=>aJ M.1 f.1) λM=>M.elim (λM=>?_) λM=>aZ M λ_ c hl=>?_;.rw[M.2.1,M.2.2];exact bm _ (ot.trans<|aF rfl)<|.inl rfl
   .refine aA (h4 o m f.2 hl) λv h5 h6=>bm v ?_<|h6.imp id λh=>⟨h.1,(e _<|aE 0xdef7bdfacd4b980127e9f59c9730024fd3eb2d2e60049fa7d64a5cc0093f4face60449f25cc0093f4fac74b980127e9 rfl).trans h.2⟩;rw[ot,aC λe=>by injection e with e;exact aE 0xef75990241f5820 rfl c e,sr λe=>by injection e with e;exact aT 0xef75990640dd802f5820 rfl f e];exact h5
 wait:=b5
 cp:=by refine dJ h.cp λne nf ao s z2 z3 h7=>aA s λys J L=>aA z2 λf' b h4=>aA z3 λm' h5 h6=>?_;obtain rfl:=c2.list.inj<|EA<|hf.symm.trans b;clear b;obtain rfl:=c2.list.inj<|EA<|hm.symm.trans h5;clear h5;obtain⟨I,K⟩:=jB h hg;refine h2 ne (nf+1) (ao+1) ⟨ys,(e 10<|aB 0x37bdef7eb352a4face4a93eb2d2a4fac94a93eb3980127c9527d63a549 rfl).trans J,L⟩ ⟨_,ax,EH▸h4▸rfl⟩ ⟨_,a,EH▸h6▸rfl⟩ ?_;show ne+(nf+1)+(ao+1)+S.Kk.length+(S.W++S.U.getD g []).length+200*(S.par.set g k).sum<=c';exact EH▸eb K▸zc 0x1def7bda0dcc5a0c8539ca4210e3b9c1499ce0a4a4b38094382b4502a52914139894190a7210e3b8ce2928e2594315420 [_,_,_,_,_,_,_,_,_,_,_,_] rfl X hc h7 (iJ h.wf K) (iF S.par g k g<|(oy h.un hg).symm▸(ou h.un.P Q).symm▸rfl)
 c:=am
theorem kP(q:P<|.int<|i-a):fd H .sub (.int i) (.int a) P:=q
theorem eK(q:P<|.int<|i+a):fd H .add (.int i) (.int a) P:=q
theorem zM{ab:CW}{m:aL}{i a:Nat}{x u:V}{C:aL->Hp->Prop}(q:C ((m.set i x).set a u) H):bY tab ab (.t<|.cons (.v i)<|.cons (.v a) .nil) (.tup [x,u]) m H C:=⟨rfl,rfl,q⟩
theorem sM(R:Rp Y al H)(h:HS Y al S)(ha:d<S.n)(hb:p<S.n)(hc:S.c+1<=100000)(q0:S.rt d=S.rt p->∀O' H',Rp Y O' H'->HS Y O' {S with c:=S.c+1}->Fr al O'->C (.bool EF) H')(q:S.rt d≠S.rt p->∀O' H',Rp Y O' H'->HS Y O' {da S (min (S.rt d)<|S.rt p) (max (S.rt d)<|S.rt p)with c:=S.c}->Fr al O'->C (.bool Do) H'):CN (G+3) 34 [.ref<|Y 0,.int (d:Nat),.int (p:Nat),rs] H C:=by
 refine ax h.h λdx hh=>ax h.un.u λaa hu=>?_;have a:=R.get hh;have bq:=h.bq;refine dJ h.cp λne nf ao s z2 z3 ab=>aA s λf an le=>aA z2 λfs M lf=>aA z3 λms af aI=>?_;have sz:∀{l},l<=100000->l<aR:=λ{l}h=>by unfold aR;exact ER ‹_› dd
 have ar:=h.c;refine a6 (fn:=qw) rfl rfl<|co<|gn (R.get an) (bO<|ap<|ac rfl<|ap<|ac rfl<|ap<|ac rfl<|aH<|gu (R.get an) (sz<|zc 0x3bded061a808b3d827a01cc3190a715c470dc20d061a808b70520 [_,_,_,_,_,_,_,_] rfl hc ab le) ?_) λP j=>ba rfl a rfl j;have R1:=R.set an<|.list<|f++[.tup [.int (d:Nat),.int (p:Nat),rs]];have J:=h.iu an (v:=.tup [.int (d:Nat),.int (p:Nat),rs]) hc;have E:∀o,o≠10->al.upd 10 (.list<|f++[.tup [.int (d:Nat),.int (p:Nat),rs]]) o=al o:=λo O=>RH.aa O;have ay:(al.upd 10<|.list<|f++[.tup [.int (d:Nat),.int (p:Nat),rs]]) 10=_:=RH.ae;generalize H.set (Y 10) (.list<|f++[.tup [.int (d:Nat),.int (p:Nat),rs]])=aq at R1⊢;generalize al.upd 10 (.list<|f++[.tup [.int (d:Nat),.int (p:Nat),rs]])=n at R1 J E ay;have a:=R1.get (r:=0)<|(E _ dd).trans hh;refine bG<|dO rfl a rfl (R1.get (r:=2)<|(E _ dd).trans hu) rfl rfl<|ap<|ac rfl<|ap<|ac rfl<|aH<|zL R1 J ha hb ((E _ dd).trans af) (sz<|zc 0x3bded061a808b3d867a01cc3190a715c470dc20d061a808b70520 [_,_,_,_,_,_,_,_] rfl hc ab aI) (λc=>bA<|aW<|ac rfl<|aG<|sl<|aU<|aG<|q0 c n aq R1 J λo O=>E o λe=>O<|.inl<|ED (Hx ‹_›) dd) λk g c X hg H2 R2=>?_
 .refine bA<|aW<|ac rfl<|aG<|sk (λe=>nomatch e)<|b4<|ac rfl<|zM ?_;have rk:=jD h.un.P d p;have Q:=jE h.un.P d p;have ae:min (S.rt d) (S.rt p)<max (S.rt d) (S.rt p):=by have:S.rt d≠S.rt p:=c;exact aE 0xed62104020f5820 rfl c
  have w:max (S.rt d) (S.rt p)<S.n:=Md.mpr ⟨dW ha,dW hb⟩;replace q:=q c;rw[<-show k=min (S.rt d) (S.rt p)from X]at q rk ae;rw[<-show g=max (S.rt d) (S.rt p)from hg]at q Q ae w;have y:∀o,o≠7/\o≠30+2*k/\o≠9->(((n.upd 7<|.list<|aM<|S.par.set g k).upd (30+2*k)<|.list<|aM<|S.ak.getD k []++S.ak.getD g []).upd 9<|.list<|ms++[.tup [.int (k:Nat),.int (g:Nat)]]) o=n o:=λo O=>(RH.aa O.2.2).trans<|(RH.aa O.2.1).trans<|RH.aa O.1;have az:(((n.upd 7<|.list<|aM<|S.par.set g k).upd (30+2*k)<|.list<|aM<|S.ak.getD k []++S.ak.getD g []).upd 9<|.list<|ms++[.tup [.int (k:Nat),.int (g:Nat)]]) 7=j' (.list<|aM<|S.par.set g k):=(RH.aa<|EP<|Ew dd<|EB _ _).trans RH.ae;have ok:(((n.upd 7<|.list<|aM<|S.par.set g k).upd (30+2*k)<|.list<|aM<|S.ak.getD k []++S.ak.getD g []).upd 9<|.list<|ms++[.tup [.int (k:Nat),.int (g:Nat)]]) (30+2*k)=j' (.list<|aM<|S.ak.getD k []++S.ak.getD g []):=(RH.aa<|EW<|Ew dd<|EB _ _).trans RH.ae;have o9:(((n.upd 7<|.list<|aM<|S.par.set g k).upd (30+2*k)<|.list<|aM<|S.ak.getD k []++S.ak.getD g []).upd 9<|.list<|ms++[.tup [.int (k:Nat),.int (g:Nat)]]) 9=j' (.list<|ms++[.tup [.int (k:Nat),.int (g:Nat)]]):=RH.ae;generalize(((n.upd 7<|.list<|aM<|S.par.set g k).upd (30+2*k)<|.list<|aM<|S.ak.getD k []++S.ak.getD g []).upd 9<|.list<|ms++[.tup [.int (k:Nat),.int (g:Nat)]])=O2 at R2 y az ok o9;have i2:∀{o D},o≠10->o≠7/\o≠30+2*k/\o≠9->al o=j' D->O2 o=j' D:=λ{o D}J L b=>(y o L).trans<|(E o J).trans b;have a:=R2.get<|i2 dd (by exact aB 0x1bdfac94813eb3980127c9027d63a409 rfl) hh;have av:=i2 dd (by exact aB 0x1bdfac94ad3eb3980127c95a7d63a569 rfl) M;refine co<|gn (R2.get av) (bF<|dt<|ba rfl a rfl<|gl (R2.get<|(y 10<|aB 0x1bdfac94a93eb3980127c9527d63a549 rfl).trans ay) (Fa<|sz<|by rw[EH,Fj];exact zc 0x1def6830d4045b8293d827a01cc3190a715c470dc20d061a808b70520 [_,_,_,_,_,_,_,_] rfl hc ab le)<|aG<|kP<|gu (R2.get av) (sz<|zc 0x3bded061a808b3d847a01cc3190a715c470dc20d061a808b70520 [_,_,_,_,_,_,_,_] rfl hc ab lf) ?_) λP j=>ba rfl a rfl j;generalize V.int (((f++[V.tup [.int (d:Nat),.int (p:Nat),rs]]).length:Int)-1)=u;have R3:=R2.set av<|.list<|fs++[u];generalize H2.set (Y 11) (.list<|fs++[u])=H3 at R3⊢;have i3:∀{o D},o≠10->o≠7/\o≠30+2*k/\o≠9->o≠11->al o=j' D->(O2.upd 11<|.list<|fs++[u]) o=j' D:=λ{o D}J L h4 b=>(RH.aa h4).trans<|i2 J L b;have a:=R3.get<|i3 dd (by exact aB 0x1bdfac94813eb3980127c9027d63a409 rfl) dd hh;have aw:=i3 dd (by exact aB 0x1bdfac94b93eb3980127c9727d63a5c9 rfl) dd h.wait;refine b5 h.above λN A ik lA aQ=>?_;have as:=i3 dd (by exact aB 0x1bdfac94b53eb3980127c96a7d63a5a9 rfl) dd A;refine ax (jB h<|GA ae w) λlk Z=>ax (jB h w) λI K=>aA (aQ k lk rk Z) λaL aJ aK=>aA (aQ g I Q K) λaN aC ug=>?_;have aD:=iJ h.wf K;have rd:∀{o m v O' H'},Rp Y O' H'->sC Y al o m v->(∀D,al (31+2*o)=j' D->O' (31+2*o)=j' D)->bP H' v=j' (aM m):=λ{o m v O' H'}R aj i=>by
   rcases aj with rfl|⟨rfl,ho⟩;.rfl
   .exact mi<|R.get<|i _ ho
  refine co<|sH (R3.get aw) (aX<|ba rfl a rfl<|ac rfl<|gk (R3.get as) (cC ik _) aC<|sI (rd R3 ug λD e=>i3 (EW<|Ew dd<|EB _ _) (aE 0xdefd64a5cc0093f4face60449f25cc0093f4fac74b980127e9 rfl) (EW<|Ew dd<|EB _ _) e) (R3.get aw) (by rw[bV,bV];unfold aR;exact zc 0x3bded3d09008b71cb40a947a01cc3190a715c470dc20d061a808b70520 [_,_,_,_,_,_,_,_] rfl hc ab aD) ?_) λP j=>ba rfl a rfl j;rw[<-g_];have z:=R3.set aw<|.list<|aM<|S.W++I;generalize H3.set (Y 14) (.list<|aM<|S.W++I)=H4 at z⊢;have i4:∀{o D},o≠10->o≠7/\o≠30+2*k/\o≠9->o≠11->o≠14->al o=j' D->((O2.upd 11<|.list<|fs++[u]).upd 14<|.list<|aM<|S.W++I) o=j' D:=λ{o D}J L h4 h5 b=>(RH.aa h5).trans<|i3 J L h4 b;have a:=z.get<|i4 dd (by exact aB 0x1bdfac94813eb3980127c9027d63a409 rfl) dd dd hh;have as:=i4 dd (by exact aB 0x1bdfac94b53eb3980127c96a7d63a5a9 rfl) dd dd A;have R5:=z.set as<|.dict<|cc N<|.int (g:Nat);have aF:N.length<=aR:=a0<|ED ‹_› dd;refine b4<|bF<|aX<|ba rfl a rfl<|ac rfl<|gk (z.get as) (cC ik _) aJ<|sK (z.get as) (ac rfl ?_) λP j=>ba rfl a rfl j;refine sL (z.get as) ik aF aC<|zK (rd R5 aK λD e=>?_) (rd R5 ug λD e=>?_) (a0 ?_)<|gQ<|ba rfl (R5.get (r:=0)<|i4 dd (by exact aB 0x1bdfac94813eb3980127c9027d63a409 rfl) dd dd hh) rfl<|ac rfl<|hN (R5.get RH.ae) (cC (ik.ddel _) _) (ED (ss _ _) aF)<|aU<|aG<|q _ _ (R5.set RH.ae<|.dict<|bC (cc N<|.int (g:Nat)) (.int (k:Nat))<|.lst<|aM lk++aM I) ?_ ?_;.rw[RH.aa<|EW<|Ew dd<|EB _ _];exact i4 (EW<|Ew dd<|EB _ _) (by exact aB 0xdefd64a5cc0093f4face60049f25cc0093f4fac74b980127e9 rfl) (EW<|Ew dd<|EB _ _) (EW<|Ew dd<|EB _ _) e
  .rw[RH.aa<|EW<|Ew dd<|EB _ _];exact i4 (EW<|Ew dd<|EB _ _) (by exact aE 0xdefd64a5cc0093f4face60449f25cc0093f4fac74b980127e9 rfl) (EW<|Ew dd<|EB _ _) (EW<|Ew dd<|EB _ _) e
  .rw[EH,bV,bV];exact aE 0x77b4fa14e08281528340a940 rfl (iJ h.wf Z) aD
  .have:=HS.mrg (k:=k) (g:=g) (x:=.tup [.int (k:Nat),.int (g:Nat)]) (u:=u) J (c':=S.c) w ae rk Q (hc:=by show S.c+1<=S.c+150;exact aB 0x28e2594070520 rfl) (am:=h.c) ((E _ dd).trans A) ((E _ dd).trans af) ((E _ dd).trans M) (O':=(((O2.upd 11<|.list<|fs++[u]).upd 14<|.list<|aM<|S.W++I).upd 13<|.dict<|cc N<|.int (g:Nat)).upd 13<|.dict<|bC (cc N<|.int (g:Nat)) (.int (k:Nat))<|.lst<|aM lk++aM I) (λo O=>(RH.aa<|aE 0x3beb3520def7bdfacd483d67241eb2d20f592907ace60449f241eb1d20 rfl O).trans<|(RH.aa<|aE 0x3beb3520def7bdfacd483d67241eb2d20f592907ace60449f241eb1d20 rfl O).trans<|(RH.aa<|aE 0x3beb3920def7bdfacd483d67241eb2d20f592907ace60449f241eb1d20 rfl O).trans<|(RH.aa<|aE 0x3beb2d20def7bdfacd483d67241eb2d20f592907ace60449f241eb1d20 rfl O).trans<|y o<|aE 0x777bf592907ace60449f241eb1d20def7bdfacd483d67241eb2d20f592907ace60449f241eb1d20 rfl O) az ((RH.aa<|EW<|Ew dd<|EB _ _).trans<|(RH.aa<|EW<|Ew dd<|EB _ _).trans<|(RH.aa<|EW<|Ew dd<|EB _ _).trans<|(RH.aa<|EW<|Ew dd<|EB _ _).trans ok) o9 ((RH.aa dd).trans<|(RH.aa dd).trans<|(RH.aa dd).trans RH.ae) (by rw[RH.aa dd,RH.aa dd,RH.ae];unfold Mine.Internal.LL.da;rw[eb K]) (by rw[RH.ae,eb Z,eb K,g_]);exact this
  .intro o O;have ad:¬(o<=14\/30<=o):=O;rw[RH.aa<|by exact aB 0xefacd483dca03c9a3920 rfl ad,RH.aa<|by exact aB 0xefacd483dca03c9a3920 rfl ad,RH.aa<|by exact aB 0xeface483dca03c9a3920 rfl ad,RH.aa<|by exact aB 0xefacb483dca03c9a3920 rfl ad,y o<|by exact aE 0x1ddefd64a41eb3981127c907ac7483dca03c9a3920 rfl ad];exact E o<|aB 0xefaca483dca03c9a3920 rfl ad
end
noncomputable def db(R:α->β->Prop):List α->List β->Prop|[],[]=>True|d::as,p::f=>R d p/\db R as f|_,_=>False
structure Cgr(B:List Tm)(T R:Tm->Tm->Prop):Prop where
 refl:∀a,R a a
 symm:∀{a b},R a b->R b a
 trans:∀{a b c},R a b->R b c->R a c
 ag:∀{a b},T a b->R a b
 ft:∀{a b},a∈B->b∈B->a.sh=b.sh->db R a.kids b.kids->R a b
structure Inv(S:St)(T:Tm->Tm->Prop):Prop where
 snd:∀R,Cgr S.B T R->∀a b t u,S.B[a]?=some t->S.B[b]?=some u->S.rt a=S.rt b->R t u
 dh:∀key m,dget S.Kk key=some (.int (m:Nat))->∃t ks,S.B[m]?=some t/\key=em t.sh ks/\∀R,Cgr S.B T R->db (λk x=>∀u,S.B[k]?=some u->R u x) ks t.kids
 cmp:∀a t,S.B[a]?=some t->a∈S.W\/∃m,dget S.Kk (bv S t)=some (.int (m:Nat))/\S.rt m=S.rt a
 d8:∀a t,S.B[a]?=some t->∀k∈a2 S.B t,∀l,S.U[S.rt k]?=some l->a∈l
structure Le(S S':St):Prop where
 B:S'.B=S.B
 rt:∀x y,S.rt x=S.rt y->S'.rt x=S'.rt y
theorem Le.refl(S:St):Le S S:=⟨rfl,λd d h=>h⟩
theorem Le.trans(d:Le S M)(p:Le M D):Le S D:=⟨p.B.trans d.B,λx u h=>p.rt x u<|d.rt x u h⟩
section
variable{T:Tm->Tm->Prop}{d p k g:Nat}
theorem hO(A:Wf S)(hg:g<S.n)(X:k<g)(rk:S.rt k=k)(Q:S.rt g=g)(x:Nat):(da S k g).rt x=if S.rt x=g then k else S.rt x:=ox A.P hg X Q rk x
theorem sN(A:Wf S)(hg:g<S.n)(X:k<g)(rk:S.rt k=k)(Q:S.rt g=g)(a:∀R,Cgr S.B T R->∀d p t aj,S.B[d]?=j' t->S.B[p]?=j' aj->S.rt d=S.rt p->R t aj)(dh:∀ab y,dget S.Kk ab=j' (.int (y:Nat))->∃t ks,S.B[y]?=j' t/\ab=em t.sh ks/\∀R,Cgr S.B T R->db (λk x=>∀aj,S.B[k]?=j' aj->R aj x) ks t.kids)(cmp:∀d t,S.B[d]?=j' t->d∈S.W\/∃y,dget S.Kk (bv S t)=j' (.int (y:Nat))/\(da S k g).rt y=(da S k g).rt d)(j:∀d t,S.B[d]?=j' t->∀k∈a2 S.B t,∀m,S.U[S.rt k]?=j' m->d∈m)(hR:∀R,Cgr S.B T R->∀t aj,S.B[k]?=j' t->S.B[g]?=j' aj->R t aj):Inv {da S k g with c:=c'} T where
 snd R n x u t aj E hy e:=by
  change(da S k g).rt x=(da S k g).rt u at e;rw[hO A hg X rk Q,hO A hg X rk Q]at e;obtain⟨aO,ek⟩:∃t,S.B[k]?=j' t:=⟨_,EL<|GA X hg⟩;obtain⟨o,w⟩:∃t,S.B[g]?=j' t:=⟨_,EL hg⟩;have l:=hR R n aO o ek w;by_cases f:S.rt x=g<;>by_cases b:S.rt u=g;.exact a R n x u t aj E hy<|f.trans b.symm
  .rw[aF f,aC b]at e;exact n.trans (a R n x g t o E w<|f.trans Q.symm)<|n.trans (n.symm l)<|a R n k u aO aj ek hy<|rk.trans e
  .rw[aC f,aF b]at e;exact n.trans (a R n x k t aO E ek<|e.trans rk.symm)<|n.trans l<|a R n g u o aj w hy<|Q.trans b.symm
  .rw[aC f,aC b]at e;exact a R n x u t aj E hy e
 dh:=dh
 cmp x t E:=by
  show x∈S.W++S.U.getD g []\/∃y,dget S.Kk (bv (da S k g) t)=j' (.int (y:Nat))/\(da S k g).rt y=(da S k g).rt x;by_cases h:∃i∈a2 S.B t,S.rt i=g;.refine aA h λi hi e=>?_;obtain⟨m,hl⟩:∃m,S.U[g]?=j' m:=⟨_,EL<|A.ul▸hg⟩;refine .inl<|Fz _ ?_;exact eb hl▸j x t E i hi m (e.symm▸hl)
  .have e:bv (da S k g) t=bv S t:=by unfold bv;refine aY _<|FJ λi hi=>?_;rw[hO A hg X rk Q,aC λe=>h ⟨i,hi,e⟩]
   rcases cmp x t E with h|h;.exact .inl<|FK _ h
   .exact e▸.inr h
 d8 x t E i hi m hl:=by
  change((S.U.set k _).set g [])[(da S k g).rt i]?=j' m at hl;rw[hO A hg X rk Q]at hl;obtain⟨lk,Z⟩:∃m,S.U[k]?=j' m:=⟨_,EL<|A.ul▸GA X hg⟩;obtain⟨I,K⟩:∃m,S.U[g]?=j' m:=⟨_,EL<|A.ul▸hg⟩;rw[eb Z,eb K]at hl;by_cases c:S.rt i=g;.rw[aF c]at hl;refine(mo hl).elim (λM=>aJ M.1<|EP X) λM=>M.elim (λM=>?_) λM=>aJ rfl M.2.1;.rw[M.2.2];exact Fz _<|j x t E i hi I<|c▸K
  .rw[aC c]at hl;refine(mo hl).elim (λM=>aJ M.1 c) λM=>M.elim (λM=>aZ M λ_ e M=>?_) λM=>?_;.rw[M];exact FK _<|j x t E i hi lk<|e▸Z
   .exact j x t E i hi m M.2.2
theorem kQ(A:Wf S)(hg:g<S.n)(X:k<g)(rk:S.rt k=k)(Q:S.rt g=g):Le S {da S k g with c:=c'}:=⟨rfl,λx u e=>by show(da S k g).rt x=(da S k g).rt u;rw[hO A hg X rk Q,hO A hg X rk Q,e]⟩
theorem sO(A:Wf S)(E:x<S.n)(hy:u<S.n)(c:S.rt x≠S.rt u):(da S (min (S.rt x)<|S.rt u)<|max (S.rt x)<|S.rt u).rt x=(da S (min (S.rt x)<|S.rt u)<|max (S.rt x)<|S.rt u).rt u:=by
 have hg:max (S.rt x) (S.rt u)<S.n:=Md.mpr ⟨dW E,dW hy⟩;have X:min (S.rt x) (S.rt u)<max (S.rt x) (S.rt u):=aE 0xed62104020f5820 rfl c;rw[hO A hg X (jD A.P x u)<|jE A.P x u,hO A hg X (jD A.P x u)<|jE A.P x u];refine(Nat.lt_or_gt_of_ne c).elim (λh=>?_) λh=>?_;.rw[Ia<|Fa h,IZ<|Fa h,aC c,aF rfl]
 .rw[JB<|Fa h,IG<|Fa h,aF rfl,aC<|HF c]
theorem sP(A:Wf S)(a:∀R,Cgr S.B T R->∀d p t aj,S.B[d]?=j' t->S.B[p]?=j' aj->S.rt d=S.rt p->R t aj)(E:S.B[x]?=j' b)(hy:S.B[u]?=j' e)(n:Cgr S.B T R)(h:R b e)(t aj:Tm)(ht:S.B[min (S.rt x)<|S.rt u]?=j' t)(hu:S.B[max (S.rt x)<|S.rt u]?=j' aj):R t aj:=by
 refine(Jm (S.rt x)<|S.rt u).elim (λc=>?_) λc=>?_;.rw[IZ c]at ht;rw[Ia c]at hu;exact n.trans (a R n _ _ _ _ ht E<|dV A.P x)<|n.trans h<|a R n _ _ _ _ hy hu (dV A.P u).symm
 .rw[IG c]at ht;rw[JB c]at hu;exact n.trans (a R n _ _ _ _ ht hy<|dV A.P u)<|n.trans (n.symm h)<|a R n _ _ _ _ E hu (dV A.P x).symm
end
def cI(S:St)(l:Nat)(t:Tm):List<|V×V:=if(dget S.Kk<|bv S t).isSome then S.Kk else S.Kk++[(bv S t,.int (l:Nat))]
theorem zN(h:dget f k=kf):dget (f++[(k,v)]) x=if k=x then j' v else dget f x:=by induction f with|nil=>rfl|cons e f ih=>
  obtain⟨d,p⟩:=e;change(if d=k then j' p else dget f k)=kf at h;by_cases c:d=k;.rw[aF c]at h;exact aP h.symm
  .rw[aC c]at h;show(if d=x then j' p else dget (f++[(k,v)]) x)=if k=x then j' v else if d=x then j' p else dget f x;rw[ih h];by_cases c2:d=x;.rw[aF c2,aF c2,aC λe=>c<|c2.trans e.symm]
   .rw[aC c2,aC c2]
section
variable{T:Tm->Tm->Prop}{l:Nat}{t:Tm}
theorem zO:dget (cI S l t) x=if bv S t=x then j'<|(dget S.Kk<|bv S t).getD<|.int (l:Nat)else dget S.Kk x:=by unfold cI;cases e:dget S.Kk (bv S t)with|none=>rw[aC EX,zN e];rfl|some v=>
  show dget S.Kk x=_;by_cases c:bv S t=x;.rw[aF c,<-c,e];rfl
  .rw[aC c]
theorem zP:(cI S l t).length<=S.Kk.length+1:=by
 unfold cI;split;.exact GV _
 .rw[EH];exact EM _
theorem zQ(h:e∈cI S l t):e∈S.Kk\/e=(bv S t,.int (l:Nat)):=by
 unfold cI at h;split at h;.exact .inl h
 .refine(E1.mp h).elim (λh=>?_) λh=>?_;.exact .inl h
  .exact .inr<|ta.mp h
theorem Wf.look(A:Wf S)(hn:l<S.n)(r:∀y∈W,y<S.n):Wf {S with Kk:=cI S l t,W:=W,c:=c}:=⟨A.P,A.ll,A.ak,A.ul,A.u,A.ut,r,λe he=>(zQ he).elim (A.k e) λh=>⟨t.sh,_,l,h,hn⟩⟩
theorem db.self:∀{as:List α},(∀d∈as,R (w d) d)->db R (as.map w) as:=by intro v;induction v with|nil=>intro g;exact trivial|cons d _ ih=>intro h;exact⟨h d Eu,ih λx E=>h x<|Ev _ E⟩
theorem sQ(I:Inv S T)(cl:∀t∈S.B,∀k∈t.kids,k∈S.B)(P:Par S.par S.n)(ht:t∈S.B)(n:Cgr S.B T R):db (λk x=>∀aj,S.B[k]?=j' aj->R aj x) ((a2 S.B t).map S.rt) t.kids:=by unfold a2;rw[Fb];refine db.self λx E aj hu=>I.snd R n _ _ _ _ hu (eu<|cl t ht x E)<|dV P _
theorem zR(I:Inv S T)(cl:∀t∈S.B,∀k∈t.kids,k∈S.B)(P:Par S.par S.n){D:Nat}{aj:Tm}(ht:t∈S.B)(hu:S.B[D]?=j' aj){ks:List Nat}(X:bv S t=em aj.sh ks){R:Tm->Tm->Prop}(n:Cgr S.B T R)(a:db (λk x=>∀aj,S.B[k]?=j' aj->R aj x) ks aj.kids):R aj t:=by
 refine aN (oA X) λe1 e2=>?_;have J:=sQ I cl P ht n;rw[e2]at J;have ad:∀k∈ks,∃v,S.B[k]?=j' v:=λk X=>by rw[<-e2]at X;refine aA (EO.mp X) λi hi s=>?_;clear X;subst s;exact⟨_,EL<|dW<|oF cl ht i hi⟩
 have go:∀{ks:List Nat}{z ys:List Tm},(∀k∈ks,∃v,S.B[k]?=j' v)->db (λk x=>∀aj,S.B[k]?=j' aj->R aj x) ks z->db (λk x=>∀aj,S.B[k]?=j' aj->R aj x) ks ys->db R z ys:=λ{ks}=>by induction ks with
  |nil=>intro z ys _ j q;induction z<;>induction ys<;>first|exact trivial|exact j.elim|exact q.elim
  |cons k ks ih=>intro z ys X j q;induction z with|nil=>exact j.elim|cons x z=>induction ys with|nil=>exact q.elim|cons u ys=>refine ax (X k Eu) λv hv=>⟨n.trans (n.symm<|j.1 v hv)<|q.1 v hv,ih (λk h=>X k<|Ev _ h) j.2 q.2⟩
 exact n.ft (E0 hu) ht e1.symm<|go ad a J
end
section
variable{G:Nat}{Y:Ad}{al:RH}{H:Hp}{C:V->Hp->Prop}{S:St}{T:Tm->Tm->Prop}{l:Nat}{t:Tm}
theorem sR{d p:Nat}{C:Bool->Prop}(q:d=p->C EF)(q2:d≠p->C Do):bK H .ne (.int (d:Nat)) (.int (p:Nat)) C:=by
 by_cases c:d=p;.exact ma (.int _ _) (c▸rfl)<|q c
 .exact kD (.int _ _) (.int _ _) (λe=>c<|by injection e with e;exact Gl.mp e)<|q2 c
theorem zS{d p:Nat}{C:Bool->Prop}(q:d=p->C Do)(q2:d≠p->C EF):bK H .eq (.int (d:Nat)) (.int (p:Nat)) C:=by
 by_cases c:d=p;.exact cH (.int _ _) (c▸rfl)<|q c
 .exact c3 (.int _ _) (.int _ _) (λe=>c<|by injection e with e;exact Gl.mp e)<|q2 c
theorem zT(P:Par par l)(hg:g<l)(Q:bW par g=g):par[g]?=j' g:=by have h:g<par.length:=P.len▸hg;have:=ou P Q;rw[E9,EL h]at this;rw[EL h];exact aY j' this
def oN(H:Hp)(o:Nat)(kv j:V)(C:V->Hp->Prop):Prop:=av (H o) λob=>match ob with|.dict f=>bD f kv/\f.length<=aR/\C ((dget f kv).getD j) (H.set o<|.dict<|if(dget f kv).isSome then f else f++[(kv,j)])|_=>False
theorem zU(O:H o=j' (.dict f))(k:am tab ab ke m H λkv H=>am tab ab J m H λj H=>oN H o kv j C)(ho:∀P,P (.ref o) H->am tab ab D m H P):am tab ab (.dg D ke J) m H C:=ho _ ⟨⟨f,O⟩,k⟩
theorem zV(O:H o=j' (.dict f))(X:bD f kv)(hl:f.length<=aR)(q:C ((dget f kv).getD j)<|H.set o<|.dict<|if(dget f kv).isSome then f else f++[(kv,j)]):oN H o kv j C:=by unfold oN;exact O▸⟨X,hl,q⟩
theorem zW(A:Wf S)(r:Sh)(ks:List Nat):bD S.Kk<|em r ks:=.inr ⟨ml r ks,λe he=>by refine fJ (A.k e he) λr ks y s d=>?_;clear he;subst s;exact ml r ks⟩
theorem HS.look(h:HS Y al S)(hn:l<S.n)(hc:S.c+1<=100000):HS Y (al.upd 12<|.dict<|cI S l t) {S with Kk:=cI S l t,c:=S.c+1}where
 wf:=h.wf.look hn h.wf.w
 bk:=⟨h.bk.fm,h.bk.cl,h.bk.bq,h.bk.b,h.bk.nodes,h.bk.ay⟩
 un:=⟨h.un.P,h.un.bq,h.un.u,h.un.a⟩
 h:=h.h
 ak:=h.ak
 ew i m hl:=(RH.aa<|EW<|Ew dd<|EB _ _).trans<|h.ew i m hl
 known:=RH.ae
 above:=by refine b5 h.above λN J L b h4=>ee N J L b λo m O hl=>?_;refine aA (h4 o m O hl) λv h5 h6=>bm v h5<|h6.imp id λh=>⟨h.1,(RH.aa<|EW<|Ew dd<|EB _ _).trans h.2⟩
 wait:=h.wait
 cp:=by refine dJ h.cp λe w y s z2 z3 h7=>aA s λys J L=>aA z2 λf' b h4=>aA z3 λm' h5 h6=>h2 e w y ⟨ys,J,L⟩ ⟨f',b,h4⟩ ⟨m',h5,h6⟩ ?_;have:=zP (S:=S) (l:=l) (t:=t);show e+w+y+(cI S l t).length+S.W.length+200*S.par.sum<=S.c+1;exact zc 0x1ded1c1499cc2990a711c7709c1051c148cf4339853214e2386e13820 [_,_,_,_,_,_,_,_] rfl h7 this
 c:=hc
inductive Looked(S:St)(n:Nat)(t:Tm):St->Prop|same(o:Nat)(ho:o<S.n)(hk:(dget S.Kk<|bv S t).getD (.int (n:Nat))=.int (o:Nat))(e:S.rt o=S.rt n):Looked S n t {S with Kk:=cI S n t,c:=S.c+1}|join(o:Nat)(ho:o<S.n)(hk:(dget S.Kk<|bv S t).getD (.int (n:Nat))=.int (o:Nat))(e:S.rt o≠S.rt n):Looked S n t {da {S with Kk:=cI S n t} (min (S.rt o)<|S.rt n) (max (S.rt o)<|S.rt n)with c:=S.c+1}
theorem sS(R:Rp Y al H)(h:HS Y al S)(hn:S.B[l]?=j' t)(hc:S.c+2<=100000)(q:∀M,Looked S l t M->∀O' H',Rp Y O' H'->HS Y O' M->Fr al O'->(dget S.Kk (bv S t)=kf->∀o,o≠12->O' o=al o)->C .none H'):CN (G+4) 31 [.ref<|Y 0,.int (l:Nat)] H C:=by
 refine ax h.h λdx hh=>?_;have a:=R.get hh;have s:l<S.n:=(EN.mp hn).1;refine dJ h.cp λe w y p p p ab=>?_;have ar:=h.c;have⟨D,ho,X⟩:∃D,D<S.n/\(dget S.Kk<|bv S t).getD (.int (l:Nat))=.int (D:Nat):=by cases e:dget S.Kk (bv S t)with|none=>exact bm l s rfl|some v=>refine fJ (h.wf.k _<|su e) λp p y e1 hm=>bm y hm (OS e1).2
 refine a6 (fn:=qs) rfl rfl<|bG<|zU (R.get h.known) (bE rfl a rfl rfl<|ap<|ac rfl<|aH<|sE (G:=G) R h hn<|ac rfl<|zV (R.get h.known) (zW h.wf _ _) (by unfold aR;exact zc 0x3bda7a1201164a01cc3190a715c470dc20d061a808b70920 [_,_,_,_,_,_,_] rfl hc ab) ?_) λP j=>ba rfl a rfl j;have R1:=R.set h.known<|.dict<|cI S l t;have J:=h.look (t:=t) s<|Fa ‹_›;have E:∀o,o≠12->(al.upd 12<|.dict<|cI S l t) o=al o:=λo O=>RH.aa O;show aV tab _ _ (aL.set _ _ _) (H.set (Y 12)<|.dict<|cI S l t) _;rw[X];generalize H.set (Y 12) (.dict<|cI S l t)=aq at R1⊢;generalize al.upd 12 (.dict<|cI S l t)=n at R1 J E;have a:=R1.get (r:=0)<|(E _ dd).trans hh;have b:∀o,¬HR o->o≠12:=λo O e=>O<|.inl<|ED (Hx ‹_›) dd;refine bA<|aW<|bE rfl a rfl rfl<|ap<|ac rfl<|aH<|iG (G:=G+1) R1 J ho<|bE rfl a rfl rfl<|ap<|ac rfl<|aH<|iG (G:=G+1) R1 J s<|sR (λc=>q _ (.same D ho X c) n aq R1 J (λo O=>E o<|b o O) λp=>E) λc=>?_
 .refine co<|bE rfl a rfl rfl<|ap<|ac rfl<|ap<|ac rfl<|ap<|bO<|ap<|aG<|aH<|aH<|sM R1 J ho s ‹_› (λx=>aJ x c) λp O' H' K h' u=>?_;refine q _ (.join D ho X c) O' H' K h' (λo O=>(u o O).trans<|E o<|b o O) λe=>?_;rw[e]at X;have:l=D:=by injection X with h;exact Gl.mp h
  exact aJ (this▸rfl) c
theorem zX(I:Inv S T)(A:Wf S)(cl:∀t∈S.B,∀k∈t.kids,k∈S.B)(hn:S.B[l]?=j' t)(r:S.W=ys++[l])(af:Looked {S with W:=ys,c:=c} l t M):Inv M T/\Le S M/\M.c=c+1/\200*M.par.sum+M.W.length<200*S.par.sum+S.W.length:=by
 have s:l<S.n:=(EN.mp hn).1;have ht:t∈S.B:=E0 hn;have ab:∀{x}{D},(dget S.Kk<|bv S t).getD (.int (l:Nat))=.int (D:Nat)->dget (cI S l t) x=if bv S t=x then j'<|.int (D:Nat)else dget S.Kk x:=λ{x D}X=>by rw[zO,X]
 have dh:∀{D},(dget S.Kk<|bv S t).getD (.int (l:Nat))=.int (D:Nat)->∀ab y,dget (cI S l t) ab=j' (.int (y:Nat))->∃t ks,S.B[y]?=j' t/\ab=em t.sh ks/\∀R,Cgr S.B T R->db (λk x=>∀aj,S.B[k]?=j' aj->R aj x) ks t.kids:=λ{D}X b y hm=>by
  rw[ab X]at hm;by_cases c:bv S t=b
  .rw[aF c]at hm;cases e:dget S.Kk (bv S t)with|none=>
    rw[e]at X;have e1:D=y:=by injection hm with h;injection h with h;exact Gl.mp h
    have e2:l=D:=by injection X with h;exact Gl.mp h
    refine dZ t ((a2 S.B t).map S.rt) (e1▸e2▸hn) c.symm λR n=>sQ I cl A.P ht n|some v=>rw[e]at X;have e1:dget S.Kk b=j' (.int (y:Nat)):=c▸e▸hm▸aY j' X;exact I.dh _ _ e1
  .rw[aC c]at hm;exact I.dh _ _ hm
 have f:S.W.length=ys.length+1:=r▸EH▸rfl;induction af with
 |same D ho X e=>
  replace X:(dget S.Kk<|bv S t).getD (.int (l:Nat))=.int (D:Nat):=X;replace e:S.rt D=S.rt l:=e;refine⟨⟨I.snd,dh X,λd aj hu=>?_,I.d8⟩,⟨rfl,λp p h=>h⟩,rfl,by show 200*S.par.sum+ys.length<_;exact aT 0x3b5701823214e0b04642ace0a420 rfl f⟩;show d∈ys\/∃y,dget (cI S l t) (bv S aj)=j' (.int (y:Nat))/\S.rt y=S.rt d;rw[ab X];by_cases c:bv S t=bv S aj
  .refine(I.cmp d aj hu).elim (λh=>?_) λ⟨y,J,L⟩=>?_
   .rw[r]at h;refine(E1.mp h).elim (λh=>?_) λh=>?_;.exact .inl h
    .exact ta.mp h▸aF c▸.inr ⟨D,rfl,e⟩
   .rw[aF c];refine .inr ⟨D,rfl,?_⟩;rw[<-c]at J;rw[J]at X;have:y=D:=by injection X with h;exact Gl.mp h
    exact this▸L
  .rw[aC c];refine(I.cmp d aj hu).elim (λh=>?_) λh=>?_
   .rw[r]at h;refine(E1.mp h).elim (λh=>?_) λh=>?_;.exact .inl h
    .rw[ta.mp h,hn]at hu;obtain rfl:=EA hu;exact aJ rfl c
   .exact .inr h|join D ho X e=>
  replace e:S.rt D≠S.rt l:=e;have am:(dget S.Kk<|bv S t).getD (.int (l:Nat))=.int (D:Nat):=X;have a:Wf {S with Kk:=cI S l t,W:=ys,c:=c}:=A.look s λy hm=>A.w y<|r▸FK _ hm;have hg:max (S.rt D) (S.rt l)<S.n:=Md.mpr ⟨dW ho,dW s⟩;have ae:min (S.rt D) (S.rt l)<max (S.rt D) (S.rt l):=aE 0xed62104020f5820 rfl e;have rk:=jD A.P D l;have Q:=jE A.P D l;refine⟨sN (S:={S with Kk:=cI S l t,W:=ys,c:=c}) a hg ae rk Q I.snd (dh am) (λd aj hu=>?_) I.d8 ?_,(Le.mk rfl λp p h=>h:Le S {S with Kk:=cI S l t,W:=ys,c:=c}).trans<|kQ a hg ae rk Q,rfl,?_⟩
  .show d∈ys\/∃y,dget (cI S l t) (bv S aj)=j' (.int (y:Nat))/\_;rw[ab am];by_cases c2:bv S t=bv S aj
   .refine(I.cmp d aj hu).elim (λh=>?_) λar=>aA ar λy J L=>?_
    .rw[r]at h;refine(E1.mp h).elim (λh=>?_) λh=>?_;.exact .inl h
     .exact(ta.mp h).symm▸(aF c2).symm▸.inr ⟨D,rfl,sO a (x:=D) (u:=l) ho s e⟩
    .rw[aF c2];refine .inr ⟨D,rfl,?_⟩;rw[<-c2]at J;rw[J]at am;have:y=D:=by injection am with h;exact Gl.mp h
     rw[this]at L;exact(kQ (c':=0) a hg ae rk Q).rt D d L
   .rw[aC c2];refine(I.cmp d aj hu).elim (λh=>?_) λan=>aA an λy J L=>?_
    .rw[r]at h;refine(E1.mp h).elim (λh=>?_) λh=>?_;.exact .inl h
     .rw[ta.mp h,hn]at hu;obtain rfl:=EA hu;exact aJ rfl c2
    .exact .inr ⟨y,J,(kQ (c':=0) a hg ae rk Q).rt y d L⟩
  .intro R n;have hd:dget S.Kk (bv S t)=j' (.int (D:Nat)):=by cases e':dget S.Kk (bv S t)with
    |none=>
     rw[e']at am;have:l=D:=by injection am with h;exact Gl.mp h
     rw[this]at e;exact aJ rfl e|some v=>rw[e']at am;exact aY j' am
   refine cM (I.dh _ _ hd) λaj ks hu aa hR=>sP (S:={S with Kk:=cI S l t,W:=ys,c:=c}) a I.snd hu hn n<|zR I cl A.P ht hu aa n<|hR R n
  .show 200*(S.par.set _ _).sum+(ys++S.U.getD _ []).length<_;have hl:(S.U.getD (max (S.rt D)<|S.rt l) []).length<=42:=by cases e':S.U[max (S.rt D)<|S.rt l]? with|none=>rw[E9,e'];exact E8 _|some m=>exact eb e'▸iJ A e'
   rw[EH];show 200*(S.par.set (max (S.rt D)<|S.rt l)<|min (S.rt D)<|S.rt l).sum+(ys.length+(S.U.getD (max (S.rt D)<|S.rt l) []).length)<_;exact zc 0x3bdef6ae030a6429ce30584321540a946b3a03115d11889588c5018ace0a420 [_,_,_,_,_,_,_] rfl f ae (iF S.par (max (S.rt D)<|S.rt l) (min (S.rt D)<|S.rt l) (max (S.rt D)<|S.rt l)<|zT A.P hg Q) hl
end
section
variable{G:Nat}{Y:Ad}{al:RH}{H:Hp}{C:V->Hp->Prop}{S:St}{T:Tm->Tm->Prop}{l:Nat}{t:Tm}
theorem zY{i a:Int}{C:Bool->Prop}(q:C<|decide<|a<i):bK H .gt (.int i) (.int a) C:=q
theorem kR{i a:Int}{C:Bool->Prop}(q:C<|decide<|i<a):bK H .lt (.int i) (.int a) C:=q
def sT(H:Hp)(ov:V)(C:V->Hp->Prop):Prop:=av (cF ov) λd=>av (H d) λob=>match ob with|.list z=>∃ys u,z=ys++[u]/\ys.length<aR/\C u (H.set d<|.list ys)|_=>False
theorem zZ(k:am tab ab D m H λov H=>sT H ov C):am tab ab (.pop D) m H C:=k
theorem z0(O:H o=j' (.list<|ys++[u]))(hl:ys.length<aR)(q:C u<|H.set o<|.list ys):sT H (.ref o) C:=by show av (H o) _;exact O▸dZ ys u rfl hl q
theorem HS.iw(h:HS Y al S)(r:S.W=ys++[l]):HS Y (al.upd 14<|.list<|aM ys) {S with W:=ys,c:=S.c-1}where
 wf:=⟨h.wf.P,h.wf.ll,h.wf.ak,h.wf.ul,h.wf.u,h.wf.ut,λy hm=>h.wf.w y<|r▸FK _ hm,h.wf.k⟩
 bk:=⟨h.bk.fm,h.bk.cl,h.bk.bq,h.bk.b,h.bk.nodes,h.bk.ay⟩
 un:=⟨h.un.P,h.un.bq,h.un.u,h.un.a⟩
 h:=h.h
 ak:=h.ak
 ew i m hl:=(RH.aa<|EW<|Ew dd<|EB _ _).trans<|h.ew i m hl
 known:=h.known
 above:=by refine b5 h.above λN J L b h4=>ee N J L b λo m O hl=>?_;refine aA (h4 o m O hl) λv h5 h6=>bm v h5<|h6.imp id λh=>⟨h.1,(RH.aa<|EW<|Ew dd<|EB _ _).trans h.2⟩
 wait:=RH.ae
 cp:=by refine dJ h.cp λe w y s z2 z3 h7=>aA s λK J L=>aA z2 λf' b h4=>aA z3 λm' h5 h6=>h2 e w y ⟨K,J,L⟩ ⟨f',b,h4⟩ ⟨m',h5,h6⟩ ?_;show e+w+y+S.Kk.length+ys.length+200*S.par.sum<=S.c-1;rw[r,EH,Fj]at h7;exact zc 0x1da3c29339853214e2386e13820a19cc2990a738292386e13820 [_,_,_,_,_,_,_] rfl h7
 c:=ED (Me _ _) h.c
theorem Fr.refl(al:RH):Fr al al:=λd d=>rfl
theorem Fr.trans(d:Fr al O')(p:Fr O' O2):Fr al O2:=λo h=>(p o h).trans<|d o h
theorem z1{D:c2}(h:HR o):Fr al<|al.upd o D:=λq hq=>RH.aa λe=>hq<|e▸h
structure Went(adr:Ad)(O:RH)(S:St)(T:Tm->Tm->Prop)(O':RH)(S':St):Prop where
 hs:HS adr O' S'
 inv:Inv S' T
 le:Le S S'
 fr:Fr O O'
def d_(Y:Ad)(al:RH)(S:St)(T:Tm->Tm->Prop)(y:Nat)(m:aL)(H:Hp):Prop:=∃O' M,y=200*M.par.sum+M.W.length/\m 3=j' (.ref<|Y 0)/\Rp Y O' H/\Went Y al S T O' M/\M.c=S.c
theorem z3(R:Rp Y al H)(h:HS Y al S)(I:Inv S T)(hc:S.c+1<=100000)(q:∀O' H' M,Rp Y O' H'->Went Y al S T O' M->M.c=S.c->M.W=[]->C .none H'):CN (G+5) 35 [.ref<|Y 0] H C:=by
 refine ax h.h λdx hh=>a6 (fn:=qx) rfl rfl<|l_ (d_ Y al S T) _ ⟨al,S,rfl,rfl,R,⟨h,I,Le.refl S,Fr.refl al⟩,rfl⟩ ?_;intro y m H' s W nx rt;refine i9 s λO' M z2 b K A e=>?_;clear s rt;subst z2;refine ax A.hs.h λdx aP=>dJ A.hs.cp λe1 z m1 d d d ab=>?_;have am:=A.hs.c;refine aW<|dt<|ba b (K.get aP) rfl<|gl (K.get A.hs.wait) (by rw[bV];unfold aR;exact zc 0x3bded3d09008b3502e61cc8538ce2b88e18ac00d061a808b70520 [_,_,_,_,_,_,_,_] rfl hc e ab)<|aG<|zY ?_;rw[bV];refine(List.eq_nil_or_concat M.W).elim (λr=>?_) λar=>cL ar λys l r=>?_;.exact r▸q O' H' M K A e r
 .rw[List.concat_eq_append]at r;have f:M.W.length=ys.length+1:=r▸EH▸rfl;rw[dI<|by exact aE 0xee240026ce0a420 rfl f];have hn:l<M.n:=A.hs.wf.w l<|r▸Fz _ (ta.mpr rfl);refine co<|bE b (K.get aP) rfl rfl<|ap<|zZ<|ba b (K.get aP) rfl<|z0 (by rw[K.get A.hs.wait,r,g_];rfl) (by rw[bV];unfold aR;exact zc 0x77bded7d09008b422ce0a5083502e61cc8538ce2b88e18ac00d061a808b70520 [_,_,_,_,_,_,_,_,_] rfl hc e ab f)<|aH<|sS (K.set A.hs.wait<|.list<|aM ys) (A.hs.iw r) (jC hn) (by show M.c-1+2<=_;exact aE 0x3bda0c350116e125e1486c00d061a808b70520 rfl hc e) λD af O2 H2 R3 h4 u d=>?_;refine bM (zX (S:=M) A.inv A.hs.wf A.hs.bk.cl (jC hn) r af) λi1 i2 i3 i4=>nx _ _ _ i4 ⟨O2,D,rfl,b,R3,⟨h4,i1,A.le.trans i2,A.fr.trans<|(z1<|.inl dd).trans u⟩,i3▸zc 0x77bdb05c14bc29059c14a106a01cc3990a719c5711c315820 [_,_,_,_,_,_,_,_,_] rfl e ab f⟩
theorem z2(R:Rp Y al H)(h:HS Y al S)(I:Inv S T)(hc:S.c+1<=100000)(ha:S.B[d]?=j' i)(hb:S.B[p]?=j' j)(ht:T i j)(q:∀O' H' M v,Rp Y O' H'->Went Y al S T O' M->M.c<=S.c+1->M.rt d=M.rt p->C v H'):CN (G+4) 33 [.ref<|Y 0,.int (d:Nat),.int (p:Nat),rs] H C:=by refine ax h.h λdx hh=>?_;have b:d<S.n:=(EN.mp ha).1;have a:p<S.n:=(EN.mp hb).1;refine a6 (fn:=qu) rfl rfl<|aU<|bE rfl (R.get hh) rfl rfl<|ap<|ac rfl<|ap<|ac rfl<|ap<|ac rfl<|aH<|sM R h b a hc (λe O' H' K h' u=>q O' H' _ _ K ⟨h',⟨I.snd,I.dh,I.cmp,I.d8⟩,⟨rfl,λw w e=>e⟩,u⟩ (EM _) e) λe O' H' K h' u=>?_;.have hg:max (S.rt d) (S.rt p)<S.n:=Md.mpr ⟨dW b,dW a⟩;have ae:min (S.rt d) (S.rt p)<max (S.rt d) (S.rt p):=aE 0xed62104020f5820 rfl e;have rk:=jD h.wf.P d p;have Q:=jE h.wf.P d p;exact q O' H' _ _ K ⟨h',sN h.wf hg ae rk Q I.snd I.dh (λx t E=>(I.cmp x t E).imp id λ⟨y,J,L⟩=>⟨y,J,(kQ (c':=0) h.wf hg ae rk Q).rt y x L⟩) I.d8 λR n=>sP h.wf I.snd ha hb n<|n.ag ht,kQ h.wf hg ae rk Q,u⟩ (GV _)<|sO h.wf b a e
theorem z4(ht:∀k∈t.kids,k∈B)(hu:∀k∈aj.kids,k∈B)(h:nd B t=nd B aj):t=aj:=by
 refine aN (oA h) λJ L=>Tm.ext J ?_;have go:∀{z ys:List Tm},(∀k∈z,k∈B)->(∀k∈ys,k∈B)->z.map (ix B)=ys.map (ix B)->z=ys:=λ{z}=>by induction z with
  |nil=>intro ys _ _ h;induction ys with|nil=>rfl|cons u ys=>cases h
  |cons x z ih=>intro ys E hy h;induction ys with|nil=>cases h|cons u ys=>injection h with J L;rw[oB (E x Eu) (hy u Eu) J,ih (λk h=>E k<|Ev _ h) (λk h=>hy k<|Ev _ h) L]
 exact go ht hu L
theorem mq(cl:∀t∈B,∀k∈t.kids,k∈B)(ht:∀k∈t.kids,k∈B):∀a:List Tm,(∀aj∈a,aj∈B)->dget (a.map λt=>(nd B t,V.int (ix B t:Nat))) (nd B t)=if t∈a then j'<|.int (ix B t:Nat)else Option.none:=by intro v1;induction v1 with|nil=>intro g;exact rfl|cons aj a ih=>
  intro hs;show(if nd B aj=nd B t then j'<|V.int (ix B aj:Nat)else dget (a.map _)<|nd B t)=_;by_cases c:aj=t;.rw[c,aF rfl,aF Eu]
  .rw[aC λe=>c<|z4 (cl aj<|hs aj Eu) ht e,ih λv hv=>hs v<|Ev _ hv];by_cases c2:t∈a;.rw[aF c2,aF<|Ev _ c2]
   .rw[aC c2,aC λh=>(EG.mp h).elim (λe=>c e.symm) c2]
theorem kV(B:List Tm)(r:Sh)(ks:List Nat):bD (cr B)<|em r ks:=.inr ⟨ml r ks,λe he=>by refine aA (EO.mp he) λaj d s=>?_;clear he;subst s;exact ml _ _⟩
theorem mr(h:z.length<1000)(q:P<|.tup<|x::z):fd H .add (.tup [x]) (.tup z) P:=⟨a0<|by rw[EH,Fj,Op];exact h,q⟩
theorem ki(O:H o=j' (.dict f))(X:bD f x)(q:P (dget f x).isSome):bK H .isIn x (.ref o) P:=by show av (H o) _;exact O▸⟨X,q⟩
theorem z5(R:Rp Y al H)(Kk:Bnk Y al B)(ht:t∈B)(q:C (.int (ix B t:Nat)) H):CN (G+1) 16 [.ref<|Y 1,.str<|a7 t.sh,.tup<|aM<|a2 B t] H C:=by
 refine ax Kk.b λdx hb=>?_;have Q:=R.get hb;have hl:(aM<|a2 B t).length<=2:=by rw[bV,a2,Ex];exact gm t
 have hg:=mq Kk.cl (Kk.cl t ht) B λd h=>h;rw[aF ht]at hg;refine a6 (fn:=nC) rfl rfl<|bG<|bF<|bO<|ap<|ac rfl<|aH<|hj<|ac rfl<|sD (ED ‹_› dd)<|mr (ER ‹_› dd)<|bA<|aW<|ac rfl<|ba rfl Q rfl<|ki (R.get Kk.ay) (kV B _ _) ?_;show if(dget (cr B)<|nd B t).isSome=Do then _ else _;exact(show dget (cr B) (nd B t)=j' (.int (ix B t:Nat))from hg).symm▸aU (aX<|ba rfl Q rfl<|ac rfl<|gk (R.get Kk.ay) (kV B _ _) hg q)
theorem sU{par:List Nat}(R:Rp Y al H)(U:Uns Y al par l)(q:C (.int (l:Nat)) H):CN (G+1) 22 [.ref<|Y 2] H C:=by refine ax U.u λdx hu=>?_;have:=U.bq;refine a6 (fn:=ql) rfl rfl<|aU<|dt<|ba rfl (R.get hu) rfl<|gl (R.get U.a) (a0<|by rw[bV,U.P.len];exact ED (Fa ‹_›) dd) ?_;rw[bV,U.P.len];exact q
theorem sV(R:Rp Y al H)(h:HS Y al S)(ht:t∈S.B)(q:C (.int (ix S.B t:Nat)) H):CN (G+2) 29 [.ref<|Y 0,.str<|a7 t.sh,.tup<|aM<|a2 S.B t] H C:=by refine ax h.h λdx hh=>ax h.bk.b λa8 hb=>ax h.un.u λaa hu=>a6 (fn:=nD) rfl rfl<|bG<|dO rfl (R.get hh) rfl (R.get hb) rfl rfl<|ap<|ac rfl<|ap<|ac rfl<|aH<|z5 R h.bk ht<|bA<|aW<|ac rfl<|dO rfl (R.get hh) rfl (R.get hu) rfl rfl<|aH<|sU R h.un<|kR ?_;exact(dI<|by have:=fY ht;show((ix S.B t:Nat):Int)<(S.B.length:Nat);exact aE 0x1dc483205420 rfl this).symm▸aU (ac rfl q)
theorem z6(R:Rp Y al H)(h:HS Y al S):∀l t,t.dp<l->t∈S.B->∀C,C (.int (ix S.B t:Nat)) H->CN (G+2+l) 30 [.ref<|Y 0,t.toV] H C:=by intro v;induction v with|zero=>intro g h g1 g2 g3;exact aJ h<|GB _|succ l ih=>
  intro t hd ht C q;refine ax h.h λdx hh=>?_;have hl:t.kids.length<=2:=gm t;rw[iE];refine a6 (fn:=j6) rfl rfl<|aU<|bE rfl (R.get hh) rfl rfl<|ap<|aX<|ac rfl<|aG ?_;show av (d2 _ (0:Nat)) _;rw[g' rfl dd,c6];refine ap<|hj<|c4<|ce<|fE<|ac rfl<|fZ (by rw[Ex];exact ER ‹_› dd) ⟨a0<|by rw[Ex];exact ED ‹_› dd,fX Tm.toV (λk=>V.int (ix S.B k:Nat)) (λk X kY q=>?_) ?_⟩;.exact bE rfl (R.get hh) rfl rfl<|ap<|ac rfl<|aH<|ih k (Ew (jA X)<|Fp hd) (h.bk.cl t ht k X) _ q
  refine iH (by rw[Ir,Ex];exact ED ‹_› dd)<|aH ?_;have e:[]++(t.kids.map λk=>V.int (ix S.B k:Nat))=aM (a2 S.B t):=by unfold aM a2;exact Fb.symm▸rfl
  rw[e];show CN (G+2+l) 29 _ _ _;exact(show G+2+l=G+l+2 by exact JR _ _ _).symm▸sV R h ht q
end
section
variable{B:List Tm}
theorem oO(k:eY tab ab p as m H λc H=>C (.bool c) H):am tab ab (.bo p as) m H C:=k
theorem ms(k:am tab ab d m H λs H=>am tab ab p m H λE H=>bK H A s E λc=>C (.bool c) H):am tab ab (.cmp A d p) m H C:=k
theorem z7(k:am tab ab e m H λv H=>av (eP v) λc=>if c=p then eY tab ab p (.cons e' o) m H Kk else Kk c H):eY tab ab p (.cons e<|.cons e' o) m H Kk:=k
theorem z8(k:am tab ab e m H λv H=>av (eP v) λc=>Kk c H):eY tab ab p (.cons e .nil) m H Kk:=k
noncomputable def kY(c:Nat):Bool:=decide (c<128)&&!j4 c&&!d1 [c] [40,41,91,93,123,125,44,58]
theorem sW(r:Sh):a7 r≠[]/\(∀c∈a7 r,kY c=Do)/\(a7 r)[0]?≠j' 63:=by
 have h0:∀i,cD i≠[]/\(∀c∈cD i,kY c=Do)/\(cD i)[0]?≠j' 63:=by decide
 have J:∀p,a7 (.un p)≠[]/\(∀c∈a7<|.un p,kY c=Do)/\(a7<|.un p)[0]?≠j' 63:=by decide
 have L:∀p,a7 (.bi p)≠[]/\(∀c∈a7<|.bi p,kY c=Do)/\(a7<|.bi p)[0]?≠j' 63:=by decide
 induction r;.exact h0 _
 .exact J _
 .exact L _
theorem z9(r:Sh):(a7 r).length<=3:=by
 have h0:∀i,(cD i).length<=3:=by decide
 have J:∀p,(a7<|.un p).length<=3:=by decide
 have L:∀p,(a7<|.bi p).length<=3:=by decide
 induction r;.exact h0 _
 .exact J _
 .exact L _
theorem sX(h:∀c∈r,c<128):j5 (.str r)=j' (r.map λc=>.str [c]):=by show(if _ then _ else _)=_;rw[aF<|FE.mpr λc hc=>dI<|h c hc]
theorem z_(r:Sh)(q:C (.bool Do) H):CN (G+1) 14 [.str<|a7 r] H C:=by
 refine aZ (sW r) λJ L d=>?_;have as:=dP r;have I:bs<|.str<|a7 r:=.str _ _ as;have hl:=z9 r;refine a6 (fn:=qe) rfl rfl<|aU<|oO<|z7<|ms<|ac rfl<|aG<|kD I (.str _ _ λd h=>(Ez h).elim) (λe=>J<|by injection e)<|z8 (p:=Do)<|ms<|c4<|ce<|ac rfl ?_;rw[sX as];refine⟨a0<|by rw[Ex];exact ED ‹_› dd,kK (λc=>V.str [c]) (λd=>EF) (λc hc k q=>?_) ?_⟩;.have X:=L c hc;unfold kY at X;rw[Ft,Ft,Iw,Iw,decide_eq_true_iff]at X;refine fC<|kA ⟨c,rfl,X.1.1,?_⟩;rw[X.1.2];refine fC<|aW<|ac rfl<|aG ?_;show if d1 [c] [40,41,91,93,123,125,44,58]=EF then _ else _;exact X.2.symm▸q
 .rw[show(a7 r).filter (λd=>EF)=[]from MU.mpr λd d h=>EX h];exact fW<|aH<|cH (.lst _ _ λd h=>(Ez h).elim) rfl q
theorem z'(r:Sh)(q:C .none H):CN (G+2) 17 [p,.str<|a7 r] H C:=by refine aZ (sW r) λJ L b=>a6 (fn:=qg) rfl rfl<|bA<|fC<|jw<|kA<|cd<|ap<|ac rfl<|aH<|z_ r ?_;refine fC<|aW<|aX<|ac rfl<|aG ?_;cases e:a7 r with|nil=>exact aJ e J|cons c o=>show av (@ite _ _ (F_ _) _ _) _;rw[aF ⟨Gv 0,by decide⟩,show(c::o)[Om 0]?=j' c from rfl,c6];refine aG<|c3 (.str _ _ λx E=>ta.mp E▸dP r c (e.symm▸Eu)) (.str _ _ dd) (λe'=>b ?_) q;.injection e' with e';injection e' with e' _;exact e▸e'▸rfl
noncomputable def wt:Tm->Nat|.lf _=>1|.un _ t=>1+wt t|.bi _ r t=>1+(wt r+wt t)
theorem sY(h:t.dp<=l):wt t+1<=2^(l+1):=by induction t generalizing l with|lf i=>exact Nat.pow_le_pow_right (n:=2) (i:=1) dd<|GF<|E8 l|un p t ih=>refine ax (F9<|EW<|Ew (Nat.zero_lt_succ _) h) λy s=>?_;subst s;have:=ih<|J' h;show 1+wt t+1<=2^(y+1+1);rw[Oq];exact aE 0x768d1242e0a5c00a68170520 rfl this|bi p r t m j=>refine ax (F9<|EW<|Ew (Nat.zero_lt_succ _) h) λy s=>?_;subst s;have h:=J' h;show 1+(wt r+wt t)+1<=2^(y+1+1);rw[Oq];exact aT 0xef68d1242e0a5ce10029a05c148a8170520 rfl (m<|ED (Jb _ _) h)<|j<|ED (IL _ _) h
theorem Aa(t:Tm):(wt t:Int)=1+(t.kids.map λk=>(wt k:Int)).sum:=by induction t with|lf i=>rfl|un p t=>show((1+wt t:Nat):Int)=1+((wt t:Int)+0);exact rfl|bi p r t=>show((1+(wt r+wt t):Nat):Int)=1+((wt r:Int)+((wt t:Int)+0));exact rfl
def sZ(H:Hp)(v:V)(C:V->Hp->Prop):Prop:=av (bP H v) λz=>av (ca z) λis=>is.length<=1000/\(∀i∈is,0<=i/\i<=1000000)/\C (.int is.sum) H
theorem Ab(k:am tab ab x m H λv H=>sZ H v C):am tab ab (.sum x) m H C:=k
theorem Ac{is:List Int}(h:is.length<=1000)(hi:∀i∈is,0<=i/\i<=1000000)(q:C (.int is.sum) H):sZ H (.lst<|is.map V.int) C:=by show av (ca _) _;rw[mc];exact⟨h,hi,q⟩
theorem f0(k:cW tab ab as m H λY H=>eD p H Y λv=>C v H):am tab ab (.mm p as) m H C:=k
theorem Ae(h:is≠[])(q:∀y,P<|.int y):eD p H [.lst<|is.map V.int] P:=by show av (ca _) _;rw[mc];exact⟨h,λy d d=>q y⟩
theorem ji(h:dget f x=kf):bC f x u=f++[(x,u)]:=by induction f with|nil=>rfl|cons e f ih=>
  obtain⟨k,v⟩:=e;change(if k=x then j' v else dget f x)=kf at h;by_cases c:k=x;.rw[aF c]at h;exact aP h.symm
  .rw[aC c]at h;show(if k=x then _ else(k,v)::bC f x u)=_;rw[aC c,ih h];rfl
theorem s4(k:am tab ab d m H λs H=>am tab ab p m H λE H=>bK H o1 s E λo=>if o then am tab ab c m H λf H=>bK H J E f λr'=>Kk r' H else Kk EF H):bS tab ab (.dz o1 J d p c) m H Kk:=k
theorem Af{i a:Int}{C:Bool->Prop}(q:C<|decide<|i<=a):bK H .le (.int i) (.int a) C:=q
theorem e5(w:α->V)(I:List α->aL->Hp->Prop)(h:I as m H)(LO:∀d as m H,I (d::as) m H->∀K',(∀m H,I as m H->K' .nx m H)->bY tab ab o (w d) m H λm H=>aV tab ab p m H K')(fin:∀m H,I [] m H->Kk .nx m H):fN (aV tab ab p) (bY tab ab o) (as.map w) m H Kk:=by induction as generalizing m H with|nil=>exact fin m H h|cons d as ih=>exact LO d as m H h _ λm H h=>ih h
theorem Ag(R:Rp Y al H)(Kk:Bnk Y al B)(ht:t∉B)(X:∀k∈t.kids,k∈B)(hd:∀aj∈B,aj.dp<=2)(h5:al 5=j' (.list<|B.map λt=>.int (wt t:Nat))){ds:List Int}(h6:al 6=j' (.list<|ds.map V.int))(ld:ds.length=B.length)(ab:B.length<40)(q:∀i H',Rp Y ((((al.upd 4<|.dict<|cr B++[(nd B t,.int (B.length:Nat))]).upd 3<|.list<|B.map (nd B)++[nd B t]).upd 5<|.list<|(B++[t]).map λt=>.int (wt t:Nat)).upd 6<|.list<|(ds++[i]).map V.int) H'->C (.int (B.length:Nat)) H'):CN (G+3) 16 [.ref<|Y 1,.str<|a7 t.sh,.tup<|aM<|a2 B t] H C:=by
 refine ax Kk.b λdx hb=>?_;have Q:=R.get hb;have hl:(aM<|a2 B t).length<=2:=by rw[bV,a2,Ex];exact gm t
 have hg:=mq Kk.cl X B λd h=>h;rw[aC ht]at hg;have ad:∀k∈a2 B t,k<B.length:=λk am=>by refine aA (EO.mp am) λx E s=>?_;clear am;replace s:=s.symm;subst s;exact fY<|X x E
 refine a6 (fn:=nC) rfl rfl<|bG<|bF<|bO<|ap<|ac rfl<|aH<|hj<|ac rfl<|sD (ED ‹_› dd)<|mr (ER ‹_› dd)<|bA<|aW<|ac rfl<|ba rfl Q rfl<|ki (R.get Kk.ay) (kV B _ _) ?_;show if(dget (cr B)<|nd B t).isSome=Do then _ else _;rw[show dget (cr B) (nd B t)=kf from hg];have D:∀ks,bD (cr B)<|em t.sh ks:=kV B t.sh;have a:(B.map<|nd B).length=B.length:=Ex _;refine co<|bE rfl Q rfl rfl<|ap<|ac rfl<|aH<|z' t.sh<|e4<|ce<|fE<|ac rfl<|fZ (ER ‹_› dd) ⟨a0<|ED ‹_› dd,e5 (λ(k:Nat)=>V.int k) (λks m H'=>H'=H/\(∀k∈ks,k<B.length)/\m 3=j' (.ref<|Y 1)/\m 29=j' (nd B t)) ⟨rfl,ad,rfl,rfl⟩ (λx ks m H'⟨e,E,b,f⟩K' k=>?_) λm H'⟨e,_,b,f⟩=>?_⟩;.replace e:=e.symm;subst e;have s3:∀v,(m.set 32 v) 3=j' (.ref<|Y 1):=λv=>b;refine bA<|jw<|s4<|aG<|ac rfl<|Af ?_;rw[dI<|Gh x,aF rfl];refine dt<|ba (s3 _) Q rfl<|gl (R.get Kk.nodes) (a0<|aE 0x77b4fa141b00350a140 rfl ab a)<|kR ?_;rw[dI<|by rw[a];exact aE 0x1dc483205420 rfl<|E x Eu];exact k _ _ ⟨rfl,λu hy=>E u<|Ev _ hy,s3 _,f⟩
 .subst e;have R1:=R.set Kk.ay<|.dict<|cr B++[(nd B t,.int (B.length:Nat))];have R2:=R1.set (o:=3) Kk.nodes<|.list<|B.map (nd B)++[nd B t];have o5:((al.upd 4<|.dict<|cr B++[(nd B t,.int (B.length:Nat))]).upd 3<|.list<|B.map (nd B)++[nd B t]) 5=j' (.list<|B.map λt=>.int (wt t:Nat)):=h5;have R3:=R2.set o5<|.list<|(B++[t]).map λt=>.int (wt t:Nat);have o6:(((al.upd 4<|.dict<|cr B++[(nd B t,.int (B.length:Nat))]).upd 3<|.list<|B.map (nd B)++[nd B t]).upd 5<|.list<|(B++[t]).map λt=>.int (wt t:Nat)) 6=j' (.list<|ds.map V.int):=h6;have w:=R1.get (r:=1) hb;have n:=R2.get (r:=1) hb;have l:=R3.get (r:=1) hb;have o3:=R1.get (r:=3) Kk.nodes;have S:(cr B).length=B.length:=Ex _;refine b4<|dt<|ba b Q rfl<|gl (R.get Kk.nodes) (a0<|aE 0x77b4fa141b00350a140 rfl ab a)<|gQ<|ba b Q rfl<|ac f<|hN (R.get Kk.ay) (kV B _ _) (a0<|aE 0x77b4fa141b00350a140 rfl ab S) ?_;rw[a,show bC (cr B) (nd B t) (V.int (B.length:Nat))=_ from ji hg];show aV tab (CN<|G+2) _ m (H'.set (Y 4)<|.dict<|cr B++[(nd B t,.int (B.length:Nat))])<|fD C;generalize H'.set (Y 4) (.dict<|cr B++[(nd B t,.int (B.length:Nat))])=aq at R1 R2 R3 w n l o3⊢;refine co<|gn o3 (ac f<|gu o3 (by rw[a];unfold aR;exact ED ‹_› dd) ?_) λP j=>ba b w rfl j;generalize aq.set (Y 3) (.list<|B.map (nd B)++[nd B t])=H2 at R2 R3 n l⊢;have K:=R2.get o5;have as:∀k∈a2 B t,∃aj,B[k]?=j' aj/\aj∈B:=λk X=>⟨_,EL<|ad k X,IM _⟩;have A:((a2 B t).map λk=>(wt<|B.getD k<|.lf 0:Int))=t.kids.map λk=>(wt k:Int):=by unfold a2;rw[Fb];refine FJ λk am=>?_;show(wt<|B.getD (ix B k)<|.lf 0:Int)=_;rw[eb<|eu<|X k am]
  refine co<|gn K (bF<|aG<|Ab<|c4<|ce<|fE<|ac f<|fZ (ER ‹_› dd) ⟨a0<|ED ‹_› dd,fX (λ(k:Nat)=>V.int k) (λ(k:Nat)=>V.int (wt<|B.getD k<|.lf 0:Nat)) (λk am kY q=>?_) ?_⟩) λP j=>ba b n rfl j;.refine aA (as k am) λaj hu d=>aX<|ba b n rfl<|ac rfl<|fT K (by rw[ET,hu];rfl) (by have:=ad k am;exact aE 0x3bdafa1201161a80350a140 rfl ab this)<|by rw[eb hu]at q;exact q
  .have e:[]++((a2 B t).map λ(k:Nat)=>V.int (wt<|B.getD k<|.lf 0:Nat))=(t.kids.map λk=>(wt k:Int)).map V.int:=by rw[<-A,Fb];rfl
   rw[e];refine Ac (by rw[Ex];have:=gm t;exact ED ‹_› dd) (λi hi=>?_)<|eK<|gu K (by rw[Ex];unfold aR;exact ED ‹_› dd) ?_;.refine aA (EO.mp hi) λk am s=>?_;clear hi;replace s:=s.symm;subst s;have:=sY<|hd k<|X k am;have:wt k<=7:=Fp ‹_›;exact⟨Gh _,HP.mpr<|ED this dd⟩
   .have e:(B.map λt=>V.int (wt t:Nat))++[V.int<|1+(t.kids.map λk=>(wt k:Int)).sum]=(B++[t]).map λt=>V.int (wt t:Nat):=by rw[Gk,<-Aa];rfl
    rw[e];generalize H2.set (Y 5) (.list<|(B++[t]).map λt=>.int (wt t:Nat))=H3 at R3 l⊢;have O:=R3.get o6;refine co<|gn O (bF<|aG<|f0<|ap<|bF<|c4<|ce<|fE<|ac f<|fZ (ER ‹_› dd) ⟨a0<|ED ‹_› dd,fX (λ(k:Nat)=>V.int k) (λ(k:Nat)=>V.int<|ds.getD k 0) (λk am kY q=>?_) ?_⟩) λP j=>ba b l rfl j
    .have p:k<ds.length:=by rw[ld];exact ad k am
     exact aX<|ba b l rfl<|ac rfl<|fT O (by rw[ET,EL p];rfl) (aT 0x3bded7d09008b15402a850a0d820 rfl ld ab p)<|by rw[E9,EL p]at q;exact q
    .have e:([]++(a2 B t).map λ(k:Nat)=>V.int<|ds.getD k 0)++[V.int 0]=(((a2 B t).map λk=>ds.getD k 0)++[0]).map V.int:=by rw[Gk,Fb];rfl
     refine fW<|ap<|aG<|aH ⟨a0<|by rw[EH,Ir,Ex];rw[bV]at hl;simp only[Fj];exact ER ‹_› dd,aH ?_⟩;rw[e];refine Ae (by rw[ne_eq,List.append_eq_nil_iff];exactλh=>nomatch h.2) λy=>eK<|gu O (by rw[Ex];unfold aR;exact aE 0x3bdafa1201160a850a0d820 rfl ld ab) ?_;have z:=R3.set o6<|.list<|(ds++[1+y]).map V.int;have e:ds.map V.int++[V.int<|1+y]=(ds++[1+y]).map V.int:=by rw[Gk];rfl
     rw[e];generalize H3.set (Y 6) (.list<|(ds++[1+y]).map V.int)=H4 at z⊢;refine aU<|bF<|dt<|ba b (z.get (r:=1)<|(RH.aa dd).trans<|(RH.aa dd).trans<|(RH.aa dd).trans<|(RH.aa dd).trans hb) rfl<|gl (z.get (r:=3)<|(RH.aa dd).trans<|(RH.aa dd).trans RH.ae) (a0<|by rw[EH,a];simp only[Fj];exact ED ‹_› dd)<|aG<|kP ?_;rw[show(((B.map (nd B)++[nd B t]).length:Nat):Int)-1=(B.length:Nat)by rw[EH,a];exact Ot (B.length:Int) 1];exact q _ _ z
end
section
variable{B:List Tm}
theorem s3(l d:Nat):(E3 l).getD d d=d:=by
 rw[E9];by_cases h:d<l;.rw[GJ h];rfl
 .rw[Hd<|by rw[Fo];exact Gf.mp ‹_›];rfl
theorem mu(l d:Nat):bW (E3 l) d=d:=me<|s3 l d
theorem s5(l:Nat):Par (E3 l) l:=⟨Fo,λd=>Hx<|s3 l d⟩
theorem s8(h:k∈B):ix (B++[t]) k=ix B k:=by show NO k (B++[t])=_;rw[J7,aF h];rfl
theorem s9(h:t∉B):ix (B++[t]) t=B.length:=by show NO t (B++[t])=_;rw[J7,aC h,NP];exact Op _ _
theorem mv(h:∀k∈aj.kids,k∈B):a2 (B++[t]) aj=a2 B aj:=FJ λk X=>s8<|h k X
theorem mw(h:∀k∈aj.kids,k∈B):nd (B++[t]) aj=nd B aj:=by unfold nd;rw[mv h]
theorem s_(cl:∀t∈B,∀k∈t.kids,k∈B)(X:∀k∈t.kids,k∈B)(ht:t∉B):cr (B++[t])=cr B++[(nd B t,.int (B.length:Nat))]:=by unfold cr;rw[Gk,FJ (g:=λaj=>(nd B aj,V.int (ix B aj:Nat))) λaj hu=>by rw[mw<|cl aj hu,s8 hu]];show _++[(nd (B++[t]) t,V.int (ix (B++[t]) t:Nat))]=_;rw[mw X,s9 ht]
theorem oP(k:cW tab ab as m H λY H=>∀d,H d=kf->C (.ref d) (H.set d<|.list Y)):am tab ab (.lst Do as) m H C:=k
theorem Ah(R:Rp Y al H)(U:Uns Y al par l)(E:al 8=j' (.list<|c1 Y l))(hn:al (30+2*l)=kf)(q:∀d H',Rp (Y.upd (30+2*l) d) (((al.upd 7<|.list<|aM<|par++[l]).upd (30+2*l)<|.list<|aM [l]).upd 8<|.list<|c1 Y l++[.ref d]) H'->C (.int (l:Nat)) H'):CN (G+1) 21 [.ref<|Y 2] H C:=by
 refine ax U.u λdx hu=>?_;have a:=R.get hu;have bq:=U.bq;have pl:(aM par).length=l:=by rw[bV,U.P.len]
 have ll:(c1 Y l).length=l:=by unfold c1;rw[Ex,Fo]
 have R1:=R.set U.a<|.list<|aM<|par++[l];refine a6 (fn:=qk) rfl rfl<|co<|gn (R.get U.a) (dt<|ba rfl a rfl<|gl (R.get U.a) (a0<|aE 0x77b4fa141b003510140 rfl bq pl)<|gu (R.get U.a) (by unfold aR;exact aE 0x3bdafa1201161b003510140 rfl bq pl) ?_) λP j=>ba rfl a rfl j;rw[pl,show aM par++[V.int (l:Nat)]=aM (par++[l])by rw[g_];rfl];generalize H.set (Y 7) (.list<|aM<|par++[l])=aq at R1⊢;have ay:=R1.get (r:=2) (by rw[RH.aa dd];exact hu);have n:=R1.get (r:=8) (by rw[RH.aa dd];exact E);refine co<|gn n (oP<|ap<|dt<|ba rfl ay rfl<|gl n (a0<|aE 0x77b4fa141b003510140 rfl bq ll)<|aH λd ha=>?_) λP j=>ba rfl ay rfl j;rw[ll];have R2:=R1.new (o:=30+2*l) ha (by rw[RH.aa<|EW<|Ew dd<|EB _ _];exact hn)<|.list<|aM [l];have u:((al.upd 7<|.list<|aM<|par++[l]).upd (30+2*l)<|.list<|aM [l]) 8=j' (.list<|c1 Y l):=by rw[RH.aa<|EP<|Ew dd<|EB _ _,RH.aa dd];exact E
 have R3:=R2.set u<|.list<|c1 Y l++[.ref d];have e:Y.upd (30+2*l) d 8=Y 8:=Ad.aa<|EP<|Ew dd<|EB _ _;have f:=R2.get u;rw[e]at R3 f;refine gu f (by rw[ll];unfold aR;exact ED ‹_› dd) ?_;have b:=R3.get (r:=2) (by rw[RH.aa dd,RH.aa<|EP<|Ew dd<|EB _ _,RH.aa dd];exact hu);rw[Ad.aa<|EP<|Ew dd<|EB _ _]at b;have g7:=R3.get (r:=7) (by rw[RH.aa dd,RH.aa<|EP<|Ew dd<|EB _ _,RH.ae]);rw[Ad.aa<|EP<|Ew dd<|EB _ _]at g7;have i:=R3;change aV tab (CN G) _ _ (Hp.set (Hp.set aq d<|.list<|aM [l]) (Y 8)<|.list<|c1 Y l++[.ref d]) _;generalize Hp.set (Hp.set aq d<|.list<|aM [l]) (Y 8) (.list<|c1 Y l++[.ref d])=H3 at R3 b g7⊢;refine aU<|bF<|dt<|ba rfl b rfl<|gl g7 (a0<|by rw[bV,EH,U.P.len];simp only[Fj];exact ED ‹_› dd)<|aG<|kP ?_;rw[bV,EH,U.P.len,show((l+[l].length:Nat):Int)-1=(l:Nat)from Ot (l:Int) 1];exact q d _ R3
structure Ph1(adr:Ad)(O:RH)(S:St):Prop where
 hs:HS adr O S
 par:S.par=List.range S.n
 ak:S.ak=(List.range S.n).map λi=>[i]Kk:S.Kk=cr S.B
 W:S.W=[]c:S.c<=200*(S.n*S.n)+S.n
 n:S.n<=21
 dp:∀u∈S.B,u.dp<=2
 d8:∀a t,S.B[a]?=some t->∀k∈a2 S.B t,∀l,S.U[k]?=some l->a∈l
 ref:∃A,O 13=some (.dict A)/\A.length<=S.n/\d' A/\∀r l,S.U[r]?=some l->dget A (.int (r:Nat))=some (.ref<|adr<|31+2*r)/\O (31+2*r)=some (.list<|aM l)tot:tot S.U<=2*S.n
 i0:O 5=some (.list<|S.B.map λt=>.int (wt t:Nat))iy:∃ds:List Int,O 6=some (.list<|ds.map V.int)/\ds.length=S.n
 dead:∀r,30+2*S.n<=r->O r=.none
end
section
variable{B:List Tm}
theorem Ai(P:Ph1 Y al S)(ht:t∉S.B)(X:∀k∈t.kids,k∈S.B)(hn:S.n+1<=21)(he:∀o,o<30+2*S.n->ae o=Y o)(e:∀o,o≠3/\o≠4/\o≠5/\o≠6/\o≠7/\o≠8/\o≠13/\o≠30+2*S.n/\o≠31+2*S.n->O' o=al o)(A:al 13=j' (.dict N))(e3:O' 3=j' (.list<|S.B.map (nd S.B)++[nd S.B t]))(Z:O' 4=j' (.dict<|cr S.B++[(nd S.B t,.int (S.n:Nat))]))(af:O' 7=j' (.list<|aM<|S.par++[S.n]))(u:O' 8=j' (.list<|c1 Y S.n++[.ref<|ae<|30+2*S.n]))(q:O' (30+2*S.n)=j' (.list<|aM [S.n]))(ab:O' (31+2*S.n)=j' (.list []))(a4:O' 13=j' (.dict<|bC N (.int (S.n:Nat))<|.ref<|ae<|31+2*S.n)):HS ae O' {S with B:=S.B++[t],par:=E3<|S.n+1,ak:=(E3<|S.n+1).map λi=>[i],U:=S.U++[[]],c:=S.c+200*S.n}/\∃A',O' 13=j' (.dict A')/\A'.length<=S.n+1/\d' A'/\∀o m,(S.U++[[]])[o]?=j' m->dget A' (.int (o:Nat))=j' (.ref<|ae<|31+2*o)/\O' (31+2*o)=j' (.list<|aM m):=by
 have h:=P.hs;have aw:(S.B++[t]).length=S.n+1:=EH.trans rfl;have ul:=h.wf.ul;refine b5 P.ref λf j lA ik O=>?_;rw[A]at j;cases j;have l:∀o m,(S.U++[[]])[o]?=j' m->o<S.n/\S.U[o]?=j' m\/o=S.n/\m=[]:=λo m hl=>by
  by_cases c:o<S.U.length;.rw[Gb c]at hl;exact .inl ⟨ul▸c,hl⟩
  .rw[Gm<|Gf.mp c]at hl;have:o-S.U.length=0:=by have:=(EN.mp hl).1;simp only[Fj]at this;exact aE 0x1db012f082a14bc20 rfl this
   rw[this]at hl;exact .inr ⟨aT 0x77bdb0456025e017aa015820 rfl ul c this,(EA hl).symm⟩
 have a:∃A',O' 13=j' (.dict A')/\A'.length<=S.n+1/\d' A'/\∀o m,(S.U++[[]])[o]?=j' m->dget A' (.int (o:Nat))=j' (.ref<|ae<|31+2*o)/\O' (31+2*o)=j' (.list<|aM m):=by
  refine ee _ a4 ?_ (ik.dput _ _) λo m hl=>?_;.rw[sq];split;exact Iy lA;exact GF lA
  .rw[ot];rcases l o m hl with⟨c,hl⟩|⟨rfl,rfl⟩;.rw[aC λe=>by injection e with e;exact aE 0x77bacc8120d420 rfl c e,he _<|by exact aE 0x76ae60449f25cc0093f4d420 rfl c,e _<|by exact aE 0x1ddef7bdef7bf59cc0893f4b980127e9f59cc0893e4b980127e9f59a9730024fd3eb212e60049fa7d63a5cc0093f4fac64b980127e9f58a9730024fd3eb112e60049fa7d61a5cc0093f4d420 rfl c];exact O o m hl
   .exact aF rfl▸⟨rfl,ab⟩
 refine⟨⟨⟨?_,?_,λo ad G m hl=>?_,?_,λm hl y hm=>?_,?_,λy hm=>?_,λx E=>?_⟩,⟨Gd.mpr ⟨h.bk.fm,FW _ _,λd ha p hb e=>ht<|by rw[ta.mp hb]at e;exact e▸ha⟩,λaj hu k am=>?_,?_,e 1 (aB 0xdef7bdef7bf59cc0093f4853eb3980127c90a7d66a429f59090a7d63a429f58c90a7d62a429f58890a7d61a429 rfl)▸he 3 (Ew dd<|EB _ _)▸he 4 (Ew dd<|EB _ _)▸he 5 (Ew dd<|EB _ _)▸he 6 (Ew dd<|EB _ _)▸h.bk.b,?_,Z▸s_ h.bk.cl X ht▸rfl⟩,⟨?_,?_,e 2 (aB 0xdef7bdef7bf59cc0093f4893eb3980127c9127d66a449f5909127d63a449f58c9127d62a449f5889127d61a449 rfl)▸he 7 (Ew dd<|EB _ _)▸he 8 (Ew dd<|EB _ _)▸he 9 (Ew dd<|EB _ _)▸h.un.u,?_⟩,e 0 (aB 0xdef7bdef7bf59cc0093f4813eb3980127c9027d66a409f5909027d63a409f58c9027d62a409f5889027d61a409 rfl)▸he 1 (Ew dd<|EB _ _)▸he 2 (Ew dd<|EB _ _)▸he 10 (Ew dd<|EB _ _)▸he 11 (Ew dd<|EB _ _)▸he 12 (Ew dd<|EB _ _)▸he 13 (Ew dd<|EB _ _)▸he 14 (Ew dd<|EB _ _)▸h.h,?_,λi m hl=>?_,e 12 (aB 0xdef7bdef7bf59cc0093f4b13eb3980127c9627d66a589f5909627d63a589f58c9627d62a589f5889627d61a589 rfl)▸h.known,?_,e 14 (aB 0xdef7bdef7bf59cc0093f4b93eb3980127c9727d66a5c9f5909727d63a5c9f58c9727d62a5c9f5889727d61a5c9 rfl)▸h.wait,?_,?_⟩,a⟩;.show Par (E3<|S.n+1) (S.B++[t]).length;exact aw▸s5 _
 .show((E3<|S.n+1).map _).length=(S.B++[t]).length;rw[aw,Ex,Fo]
 .change o<(S.B++[t]).length at ad;show m.Nodup/\∀y,y∈m↔y<(S.B++[t]).length/\bW (E3<|S.n+1) y=o;rw[aw]at ad⊢;change((E3<|S.n+1).map λi=>[i])[o]?=j' m at hl;rw[ET,GJ ad]at hl;obtain rfl:=EA hl;refine⟨FW _ _,λy=>?_⟩;rw[mu,ta];exact⟨λe=>⟨aT 0x1ded5c14845600aae0a420 rfl ad e,e⟩,λh=>h.2⟩
 .show(S.U++[[]]).length=(S.B++[t]).length;exact aw▸EH▸ul▸rfl
 .show y<(S.B++[t]).length;rw[aw];refine(E1.mp hl).elim (λhl=>?_) λhl=>?_;.exact Gn<|h.wf.u m hl y hm
  .rw[ta.mp hl]at hm;exact(Ez hm).elim
 .show tot (S.U++[[]])<=42;have:=P.tot;unfold tot at this⊢;rw[Gk,KQ];simp only[Gq,IE,Ik,HD,Mq];exact aE 0x3bda054a7380902434600490d2a970520 rfl hn this
 .rw[show S.W=[]from P.W]at hm;exact(Ez hm).elim
 .refine fJ (h.wf.k x E) λr ks y e1 e2=>i_ r ks y e1<|by show y<(S.B++[t]).length;exact aw▸Gn e2
 .refine(E1.mp hu).elim (λhu=>?_) λhu=>?_;.exact FK _<|h.bk.cl aj hu k am
  .rw[ta.mp hu]at am;exact FK _<|X k am
 .show(S.B++[t]).length<64;exact aE 0xef6a202836705200d2a970520 rfl hn aw
 .rw[e3,Gk,FJ λaj hu=>(mw<|h.bk.cl aj hu:nd (S.B++[t]) aj=_)];show _=j' (c2.list<|_++[nd (S.B++[t]) t]);rw[mw X]
 .show Par (E3<|S.n+1) (S.B++[t]).length;exact aw▸s5 _
 .show(S.B++[t]).length<64;exact aE 0xef6a202836705200d2a970520 rfl hn aw
 .rw[af,P.par,KO]
 .show O' 8=j' (.list<|c1 ae (S.B++[t]).length);rw[u,aw];unfold c1;rw[KO,Gk,FJ (g:=λ(i:Nat)=>V.ref<|ae<|30+2*i) λi hi=>by rw[he (30+2*i)<|by have:=F3.mp hi;exact aE 0x76ae60449f25cc0093e4d420 rfl this]];rfl
 .change((E3<|S.n+1).map λi=>[i])[i]?=j' m at hl;have hi:i<S.n+1:=by have:=(EN.mp hl).1;rwa[Ex,Fo]at this
  rw[ET,GJ hi]at hl;obtain rfl:=EA hl;by_cases c:i=S.n;.clear hi hl;subst c;exact q
  .exact e _ (by exact aE 0x3bbdef7bdef7eb3981127e9730024f93eb3981127c9730024f93eb352e60049f27d6425cc0093e4fac74b980127c9f58c9730024f93eb152e60049f27d6225cc0093e4fac34b980127c9f5820 rfl c)▸h.ew i [i] (by rw[P.ak,ET,GJ<|by exact aE 0x77b5083d6082ae0a420 rfl hi c];rfl)
 .refine b5 a λA' J L b h4=>ee A' J b (aE 0xef68322834705200d2a970520 rfl hn L) λo m G hl=>⟨_,(h4 o m hl).1,.inr ⟨rfl,(h4 o m hl).2⟩⟩
 .refine dJ h.cp λe' w y s z2 z3 h7=>aA s λz x1 x2=>aA z2 λys y1 y2=>aA z3 λK s z2=>h2 e' w y ⟨z,(e 10<|aB 0xdef7bdef7bf59cc0093f4a93eb3980127c9527d66a549f5909527d63a549f58c9527d62a549f5889527d61a549 rfl).trans x1,x2⟩ ⟨ys,(e 11<|aB 0xdef7bdef7bf59cc0093f4ad3eb3980127c95a7d66a569f59095a7d63a569f58c95a7d62a569f58895a7d61a569 rfl).trans y1,y2⟩ ⟨K,(e 9<|aB 0xdef7bdef7bf59cc0093f4a53eb3980127c94a7d66a529f59094a7d63a529f58c94a7d62a529f58894a7d61a529 rfl).trans s,z2⟩ ?_;show e'+w+y+S.Kk.length+S.W.length+200*(E3<|S.n+1).sum<=S.c+200*S.n;rw[P.par]at h7;rw[KO,KQ];simp only[HD,Mq];exact zc 0x3b4730e6428ce639c049ca6429c470dc270414339853214e2386e13820 [_,_,_,_,_,_,_,_] rfl h7
 .have L:S.n*S.n<=20*20:=J0 (Fp ‹_›)<|Fp ‹_›;have:=P.c;show S.c+200*S.n<=100000;exact aT 0xef7b4186a022dcc0190a151c0604c850a8ca26890d2a970520 rfl hn L this
theorem Aj(h:HS Y al S)(hl:S.U[c]?=j' m)(hm:y<S.n)(ht:tot S.U+1<=42)(O:∃N,al 13=j' (.dict N)/\N.length<=S.n/\d' N/\∀o m,S.U[o]?=j' m->dget N (.int (o:Nat))=j' (.ref<|Y<|31+2*o)/\al (31+2*o)=j' (.list<|aM m)):HS Y (al.upd (31+2*c)<|.list<|aM<|m++[y]) {S with U:=S.U.set c<|m++[y]}/\tot (S.U.set c<|m++[y])=tot S.U+1/\∃N,(al.upd (31+2*c)<|.list<|aM<|m++[y]) 13=j' (.dict N)/\N.length<=S.n/\d' N/\∀o l',(S.U.set c<|m++[y])[o]?=j' l'->dget N (.int (o:Nat))=j' (.ref<|Y<|31+2*o)/\(al.upd (31+2*c)<|.list<|aM<|m++[y]) (31+2*o)=j' (.list<|aM l'):=by
 have d:tot (S.U.set c<|m++[y])=tot S.U+1:=by unfold tot;rw[Mr];have:=iF (S.U.map Hk) c (m++[y]).length m.length (by rw[ET,hl];rfl);rw[EH,Fj]at this;rw[EH,Fj];exact aT 0x1db3829102ce7052113820 rfl this
 refine b5 O λN J L b h4=>?_;have a:∃N,(al.upd (31+2*c)<|.list<|aM<|m++[y]) 13=j' (.dict N)/\N.length<=S.n/\d' N/\∀o l',(S.U.set c<|m++[y])[o]?=j' l'->dget N (.int (o:Nat))=j' (.ref<|Y<|31+2*o)/\(al.upd (31+2*c)<|.list<|aM<|m++[y]) (31+2*o)=j' (.list<|aM l'):=by
  refine ee N ((RH.aa<|EP<|Ew dd<|EB _ _).trans J) L b λo l' j=>?_;refine(mp j).elim (λM=>?_) λM=>aN M λc1 j=>?_;.rw[M.1,M.2];exact⟨(h4 c m hl).1,RH.ae⟩
  .rw[RH.aa<|by exact aE 0x1df59cc0893f4b980127e9f5820 rfl c1];exact h4 o l' j
 refine⟨⟨⟨h.wf.P,h.wf.ll,h.wf.ak,HV.trans h.wf.ul,λl' j x E=>?_,by show tot _<=42;rw[d];exact ht,h.wf.w,h.wf.k⟩,⟨h.bk.fm,h.bk.cl,h.bk.bq,by rw[RH.aa<|EP<|Ew dd<|EB _ _];exact h.bk.b,(RH.aa<|EP<|Ew dd<|EB _ _).trans h.bk.nodes,(RH.aa<|EP<|Ew dd<|EB _ _).trans h.bk.ay⟩,⟨h.un.P,h.un.bq,by rw[RH.aa<|EP<|Ew dd<|EB _ _];exact h.un.u,(RH.aa<|EP<|Ew dd<|EB _ _).trans h.un.a⟩,by rw[RH.aa<|EP<|Ew dd<|EB _ _];exact h.h,(RH.aa<|EP<|Ew dd<|EB _ _).trans h.ak,λi m hl=>(RH.aa<|aE 0xf59cc0893f4b980127c9 rfl).trans<|h.ew i m hl,(RH.aa<|EP<|Ew dd<|EB _ _).trans h.known,?_,(RH.aa<|EP<|Ew dd<|EB _ _).trans h.wait,?_,h.c⟩,d,a⟩
 .refine ax (Gj.mp j) λi hi=>?_;refine(mp hi).elim (λM=>?_) λM=>?_
  .rw[M.2]at E;rcases E1.mp E with E|E;.exact h.wf.u m (E0 hl) x E
   .rw[ta.mp E];exact hm
  .exact h.wf.u l' (E0 M.2) x E
 .refine b5 a λA' J L b h4=>ee A' J b (aE 0x77b419141a003510140 rfl h.bq L) λo m G hl=>⟨_,(h4 o m hl).1,.inr ⟨rfl,(h4 o m hl).2⟩⟩
 .as_aux_lemma=>refine dJ h.cp λe w y s z2 z3 h7=>aA s λz x1 x2=>aA z2 λys y1 y2=>aA z3 λK s z2=>h2 e w y ⟨z,(RH.aa<|EP<|Ew dd<|EB _ _).trans x1,x2⟩ ⟨ys,(RH.aa<|EP<|Ew dd<|EB _ _).trans y1,y2⟩ ⟨K,(RH.aa<|EP<|Ew dd<|EB _ _).trans s,z2⟩ h7
end
section
variable{G:Nat}{Y ae:Ad}{al O':RH}{H:Hp}{C:V->Hp->Prop}{S:St}{l:Nat}{t:Tm}{B:List Tm}
theorem Ak(hK:dget S.Kk (bv S t)=kf)(af:Looked S l t M):M={S with Kk:=S.Kk++[(bv S t,.int (l:Nat))],c:=S.c+1}:=by
 have pk:cI S l t=S.Kk++[(bv S t,.int (l:Nat))]:=by unfold cI;exact hK▸rfl
 induction af with|same D ho X e=>rw[pk]|join D ho X e=>
  rw[hK]at X;have:l=D:=by injection X with h;exact Gl.mp h
  exact aJ (this▸rfl) e
theorem Am(R:Rp Y al H)(P:Ph1 Y al S)(ht:t∉S.B)(X:∀k∈t.kids,k∈S.B)(hd:t.dp<=2)(hn:S.n+1<=21)(q:∀ae O' H' M,Rp ae O' H'->Ph1 ae O' M->M.B=S.B++[t]->(∀o,o<30->ae o=Y o)->Fr al O'->C (.int (S.n:Nat)) H'):CN (G+5) 29 [.ref<|Y 0,.str<|a7 t.sh,.tup<|aM<|a2 S.B t] H C:=by
 have h:=P.hs;refine ax h.h λdx hh=>ax h.bk.b λa8 hb=>ax h.un.u λaa hu=>aA P.iy λds h6 ld=>b5 P.ref λN A lA ik bh=>?_;have bq:=h.bq;have aK:S.n=S.B.length:=rfl;refine a6 (fn:=nD) rfl rfl<|bG<|dO rfl (R.get hh) rfl (R.get hb) rfl rfl<|ap<|ac rfl<|ap<|ac rfl<|aH<|Ag (G:=G+1) R h.bk ht X P.dp P.i0 h6 ld (by exact aE 0x1ded428506c1052a970520 rfl hn aK) λi aq R1=>?_;have e1:∀o,o≠3/\o≠4/\o≠5/\o≠6->((((al.upd 4<|.dict<|cr S.B++[(nd S.B t,.int (S.B.length:Nat))]).upd 3<|.list<|S.B.map (nd S.B)++[nd S.B t]).upd 5<|.list<|(S.B++[t]).map λt=>.int (wt t:Nat)).upd 6<|.list<|(ds++[i]).map V.int) o=al o:=λo O=>by rw[RH.aa<|by exact aB 0x1df58c906f7bf58c907ac5483d62241eb0d20 rfl O,RH.aa<|by exact aB 0x1df58a906f7bf58c907ac5483d62241eb0d20 rfl O,RH.aa<|by exact aB 0x1df586906f7bf58c907ac5483d62241eb0d20 rfl O,RH.aa<|by exact aB 0x1df588906f7bf58c907ac5483d62241eb0d20 rfl O]
 have o3:((((al.upd 4<|.dict<|cr S.B++[(nd S.B t,.int (S.B.length:Nat))]).upd 3<|.list<|S.B.map (nd S.B)++[nd S.B t]).upd 5<|.list<|(S.B++[t]).map λt=>.int (wt t:Nat)).upd 6<|.list<|(ds++[i]).map V.int) 3=j' (.list<|S.B.map (nd S.B)++[nd S.B t]):=rfl;have o4:((((al.upd 4<|.dict<|cr S.B++[(nd S.B t,.int (S.B.length:Nat))]).upd 3<|.list<|S.B.map (nd S.B)++[nd S.B t]).upd 5<|.list<|(S.B++[t]).map λt=>.int (wt t:Nat)).upd 6<|.list<|(ds++[i]).map V.int) 4=j' (.dict<|cr S.B++[(nd S.B t,.int (S.B.length:Nat))]):=rfl;have o5:((((al.upd 4<|.dict<|cr S.B++[(nd S.B t,.int (S.B.length:Nat))]).upd 3<|.list<|S.B.map (nd S.B)++[nd S.B t]).upd 5<|.list<|(S.B++[t]).map λt=>.int (wt t:Nat)).upd 6<|.list<|(ds++[i]).map V.int) 5=j' (.list<|(S.B++[t]).map λt=>.int (wt t:Nat)):=rfl;have o6:((((al.upd 4<|.dict<|cr S.B++[(nd S.B t,.int (S.B.length:Nat))]).upd 3<|.list<|S.B.map (nd S.B)++[nd S.B t]).upd 5<|.list<|(S.B++[t]).map λt=>.int (wt t:Nat)).upd 6<|.list<|(ds++[i]).map V.int) 6=j' (.list<|(ds++[i]).map V.int):=RH.ae;generalize((((al.upd 4<|.dict<|cr S.B++[(nd S.B t,.int (S.B.length:Nat))]).upd 3<|.list<|S.B.map (nd S.B)++[nd S.B t]).upd 5<|.list<|(S.B++[t]).map λt=>.int (wt t:Nat)).upd 6<|.list<|(ds++[i]).map V.int)=n at R1 e1 o3 o4 o5 o6;have i1:∀{o D},al o=j' D->o≠3/\o≠4/\o≠5/\o≠6->n o=j' D:=λho O=>by rw[e1 _ O];exact ho
 have aL:=R1.get<|i1 hh dd;have ay:=R1.get<|i1 hu dd;have U1:Uns Y n S.par S.n:=⟨h.un.P,bq,⟨aa,i1 hu dd⟩,i1 h.un.a dd⟩;refine bA<|aW<|ac rfl<|dO rfl aL rfl ay rfl rfl<|aH<|sU R1 U1<|kR ?_;rw[ga<|by exact aE 0x3bec48120d820 rfl aK];refine co<|dO rfl aL rfl ay rfl rfl<|aH<|Ah R1 U1 (i1 h.ak dd) (by rw[e1 _<|by exact aB 0x6f7bf58c9730024f93eb152e60049f27d6225cc0093e4fac34b980127c9 rfl];exact P.dead _<|by exact aB 0x51cc0093e4b980127c9 rfl) λd H2 R2=>b4<|oP<|aH λp az=>?_;have R3:=R2.new (o:=31+2*S.n) az (by rw[RH.aa<|EW<|Ew dd<|EB _ _,RH.aa<|by exact aB 0xf59cc0093e4b980127e9 rfl,RH.aa<|EW<|Ew dd<|EB _ _,e1 _<|by exact aB 0x6f7bf58c9730024fd3eb152e60049fa7d6225cc0093f4fac34b980127e9 rfl];exact P.dead _<|by exact aB 0x51cc0093f4b980127c9 rfl)<|.list [];have he:∀o,o<30+2*S.n->(Ad.upd (Y.upd (30+2*S.n) d) (31+2*S.n) p) o=Y o:=λo O=>by rw[Ad.aa<|by exact aE 0xeface60449fa415730224f920 rfl O,Ad.aa<|EP ‹_›]
 have aG:(Ad.upd (Y.upd (30+2*S.n) d) (31+2*S.n) p) (30+2*S.n)=d:=by rw[Ad.aa<|by exact aB 0xf59cc0093f4b980127c9 rfl,Ad.ae]
 have aN:(Ad.upd (Y.upd (30+2*S.n) d) (31+2*S.n) p) (31+2*S.n)=p:=Ad.ae;have e3:∀o,o≠3/\o≠4/\o≠5/\o≠6/\o≠7/\o≠8/\o≠30+2*S.n/\o≠31+2*S.n->((((n.upd 7<|.list<|aM<|S.par++[S.n]).upd (30+2*S.n)<|.list<|aM [S.n]).upd 8<|.list<|c1 Y S.n++[.ref d]).upd (31+2*S.n)<|.list []) o=al o:=λo O=>by rw[RH.aa<|by exact aE 0xeface60449fa41bdef7bdefd6730224fd20f59cc0893e483d64241eb1d20f58c907ac5483d62241eb0d20 rfl O,RH.aa<|by exact aE 0x77d64241bdef7bdefd6730224fd20f59cc0893e483d64241eb1d20f58c907ac5483d62241eb0d20 rfl O,RH.aa<|by exact aE 0xeface60449f241bdef7bdefd6730224fd20f59cc0893e483d64241eb1d20f58c907ac5483d62241eb0d20 rfl O,RH.aa<|by exact aE 0x77d63a41bdef7bdefd6730224fd20f59cc0893e483d64241eb1d20f58c907ac5483d62241eb0d20 rfl O,e1 _<|by exact aE 0x1ddef7eb1920f58a907ac4483d61a41bdef7bdefd6730224fd20f59cc0893e483d64241eb1d20f58c907ac5483d62241eb0d20 rfl O]
 have p7:((((n.upd 7<|.list<|aM<|S.par++[S.n]).upd (30+2*S.n)<|.list<|aM [S.n]).upd 8<|.list<|c1 Y S.n++[.ref d]).upd (31+2*S.n)<|.list []) 7=j' (.list<|aM<|S.par++[S.n]):=by rw[RH.aa<|EP<|Ew dd<|EB _ _,RH.aa dd,RH.aa<|EP<|Ew dd<|EB _ _,RH.ae]
 have p8:((((n.upd 7<|.list<|aM<|S.par++[S.n]).upd (30+2*S.n)<|.list<|aM [S.n]).upd 8<|.list<|c1 Y S.n++[.ref d]).upd (31+2*S.n)<|.list []) 8=j' (.list<|c1 Y S.n++[.ref d]):=by rw[RH.aa<|EP<|Ew dd<|EB _ _,RH.ae]
 have pl:((((n.upd 7<|.list<|aM<|S.par++[S.n]).upd (30+2*S.n)<|.list<|aM [S.n]).upd 8<|.list<|c1 Y S.n++[.ref d]).upd (31+2*S.n)<|.list []) (30+2*S.n)=j' (.list<|aM [S.n]):=by rw[RH.aa<|by exact aB 0xf59cc0093f4b980127c9 rfl,RH.aa<|EW<|Ew dd<|EB _ _,RH.ae]
 have I:((((n.upd 7<|.list<|aM<|S.par++[S.n]).upd (30+2*S.n)<|.list<|aM [S.n]).upd 8<|.list<|c1 Y S.n++[.ref d]).upd (31+2*S.n)<|.list []) (31+2*S.n)=j' (.list []):=RH.ae;have pk:∀o,o=3\/o=4\/o=5\/o=6->((((n.upd 7<|.list<|aM<|S.par++[S.n]).upd (30+2*S.n)<|.list<|aM [S.n]).upd 8<|.list<|c1 Y S.n++[.ref d]).upd (31+2*S.n)<|.list []) o=n o:=λo O=>by rw[RH.aa<|by exact aE 0x3beb3981127e90739cb1920b1520b1120b0d20 rfl O,RH.aa<|by exact aB 0x1df59090739cb1920b1520b1120b0d20 rfl O,RH.aa<|by exact aE 0x3beb3981127c90739cb1920b1520b1120b0d20 rfl O,RH.aa<|by exact aB 0x1df58e90739cb1920b1520b1120b0d20 rfl O]
 generalize((((n.upd 7<|.list<|aM<|S.par++[S.n]).upd (30+2*S.n)<|.list<|aM [S.n]).upd 8<|.list<|c1 Y S.n++[.ref d]).upd (31+2*S.n)<|.list [])=O3 at R3 e3 p7 p8 pl I pk;generalize Ad.upd (Y.upd (30+2*S.n) d) (31+2*S.n) p=aD at R3 he aG aN;show bY tab (CN<|G+4) _ _ _ (Hp.set H2 p<|.list []) _;generalize Hp.set H2 p (.list [])=H3 at R3⊢;have as:O3 13=j' (.dict N):=by rw[e3 _<|by exact aB 0x1bdef7bdefd6730024fd2d4face60049f25a9f59096a7d63a5a9f58c96a7d62a5a9f58896a7d61a5a9 rfl];exact A
 have g0:=R3.get (r:=0) (by rw[e3 _<|by exact aB 0x1bdef7bdefd6730024fd204face60049f2409f5909027d63a409f58c9027d62a409f5889027d61a409 rfl];exact hh);rw[he 0<|Ew dd<|EB _ _]at g0;have aQ:=R3.get as;rw[he 13<|Ew dd<|EB _ _]at aQ;refine gQ<|ba rfl g0 rfl<|ac rfl<|hN aQ (cC ik _) (a0<|by exact aE 0x1ded3e8506800d2a970520 rfl hn lA) ?_;have z:=R3.set as<|.dict<|bC N (.int (S.n:Nat))<|.ref p;rw[he 13<|Ew dd<|EB _ _]at z;have Z:∀o,o≠13->(O3.upd 13<|.dict<|bC N (.int (S.n:Nat))<|.ref p) o=O3 o:=λo O=>RH.aa O;have aS:(O3.upd 13<|.dict<|bC N (.int (S.n:Nat))<|.ref p) 13=j' (.dict<|bC N (.int (S.n:Nat))<|.ref p):=RH.ae;show aV tab (CN<|G+4) _ _ (H3.set (Y 13)<|.dict<|bC N (.int (S.n:Nat))<|.ref p) _;generalize H3.set (Y 13) (.dict<|bC N (.int (S.n:Nat))<|.ref p)=H4 at z⊢;generalize O3.upd 13 (.dict<|bC N (.int (S.n:Nat))<|.ref p)=O4 at z Z aS;obtain⟨h4,r4⟩:=Ai (ae:=aD) (O':=O4) P ht X hn he λo O=>by rw[Z o<|by exact aE 0x1df59a906f7bdef7bdface60449fa41eb3981127c907acd483d64241eb1d20f58c907ac5483d62241eb0d20 rfl O,e3 o<|by exact aE 0x1ddef7bdef7eb3981127e907ace60449f241eb2120f58e907ac6483d62a41eb1120f586906f7bdef7bdface60449fa41eb3981127c907acd483d64241eb1d20f58c907ac5483d62241eb0d20 rfl O] A (by rw[Z _ dd,pk 3 dd];exact o3) (by rw[Z _ dd,pk 4 dd];exact o4) (by rw[Z _ dd];exact p7) (by rw[Z _ dd,aG];exact p8) (by rw[Z _<|EW<|Ew dd<|EB _ _];exact pl) (by rw[Z _<|EW<|Ew dd<|EB _ _];exact I) (by rw[aN];exact aS);have q5:O4 5=j' (.list<|(S.B++[t]).map λt=>.int (wt t:Nat)):=by rw[Z _ dd,pk 5 dd];exact o5
 have q6:O4 6=j' (.list<|(ds++[i]).map V.int):=by rw[Z _ dd,pk 6 dd];exact o6
 have a1:∀o,o≠3/\o≠4/\o≠5/\o≠6/\o≠7/\o≠8/\o≠13/\o≠30+2*S.n/\o≠31+2*S.n->O4 o=al o:=λo O=>by rw[Z o<|by exact aE 0x1df59a906f7bdef7bdface60449fa41eb3981127c907acd483d64241eb1d20f58c907ac5483d62241eb0d20 rfl O,e3 o<|by exact aE 0x1ddef7bdef7eb3981127e907ace60449f241eb2120f58e907ac6483d62a41eb1120f586906f7bdef7bdface60449fa41eb3981127c907acd483d64241eb1d20f58c907ac5483d62241eb0d20 rfl O]
 clear Z aS R3 e3 p7 p8 pl I pk g0 aQ aL ay U1 i1 o3 o4 o5 o6 e1 R1 R2 az aG aN;have aw:(S.B++[t]).length=S.n+1:=by rw[EH];rfl
 have kl:(a2 S.B t).length<=2:=by rw[a2,Ex];exact gm t
 have a3:∀k∈a2 S.B t,k<S.n:=λk am=>by refine aA (EO.mp am) λx E s=>?_;clear am;subst s;exact fY<|X x E
 rw[show Y 0=aD 0 from(he 0<|Ew dd<|EB _ _).symm];refine e4<|ce<|oJ<|c4<|ce<|ac rfl ⟨a0<|by rw[bV];exact ED ‹_› dd,fX (λ(k:Nat)=>V.int k) (λ(k:Nat)=>V.int k) (λk am kY q=>?_) ?_⟩
 .refine ax h4.h λbc aP=>bE rfl (z.get aP) rfl rfl<|ap<|ac rfl<|aH<|iG (G:=G+2) z h4 (d:=k) ?_ ?_;.show k<(S.B++[t]).length;rw[aw];exact Gn<|a3 k am
  .show kY (V.int (bW (E3<|S.n+1) k:Nat)) H4;rw[mu];exact q
 refine sG (ns:=a2 S.B t) rfl (ER ‹_› dd) λms mp mm=>?_;have ml:ms.length<=2:=by have:=Jc (l₁:=ms) (mp.imp λh=>EP h) λy h=>(mm y).mp h;exact ED ‹_› ‹_›
 refine⟨a0<|by rw[bV];exact ED ‹_› dd,e5 (λ(k:Nat)=>V.int k) (λcs m H'=>∃O' f,Rp aD O' H'/\HS aD O' {S with B:=S.B++[t],par:=E3<|S.n+1,ak:=(E3<|S.n+1).map λi=>[i],U:=f,c:=S.c+200*S.n}/\(∃A',O' 13=j' (.dict A')/\A'.length<=S.n+1/\d' A'/\∀o m,f[o]?=j' m->dget A' (.int (o:Nat))=j' (.ref<|aD<|31+2*o)/\O' (31+2*o)=j' (.list<|aM m))/\m 3=j' (.ref<|aD 0)/\m 4=j' (.int (S.n:Nat))/\(∀c∈cs,c<S.n)/\tot f+cs.length<=2*S.n+2/\(∀(k:Nat)(l0:List Nat),(S.U++[[]])[k]?=j' l0->∃l1:List Nat,f[k]?=j' l1/\∀x∈l0,x∈l1)/\(∀c∈a2 S.B t,c∈cs\/∃l1,f[c]?=j' l1/\S.n∈l1)/\∀o,o<30\/30+2*(S.n+1)<=o->O' o=O4 o) ⟨O4,S.U++[[]],z,h4,r4,rfl,rfl,λc hc=>a3 c<|(mm c).mp hc,?_,?_,λc hc=>.inl<|(mm c).mpr hc,λw w=>rfl⟩ ?_ ?_⟩;rotate_left;.intro k l0 h;exact bm l0 h λx E=>E
 rotate_right;.have:=P.tot;unfold tot at this⊢;rw[Gk,KQ];simp only[Gq,IE,Ik,HD,Mq];exact aT 0x1ded1c24b0424b80e701204868c10921a0920 rfl ml this
 .as_aux_lemma=>
   intro c cs m H' s K' k;refine jV s λO' f K h' r' b ao hc z2=>bM z2 λaI aY aJ hO=>?_;have aO:=hc c Eu;rw[Fi]at aI;obtain⟨lc,ab⟩:∃lc,f[c]?=j' lc:=⟨_,EL<|by have:f.length=(S.B++[t]).length:=h'.wf.ul;exact cy 0x3bded462b007508ace0a420 rfl aw aO this⟩;refine ax h'.h λbc aP=>b5 r' λA' a4 w a5 ad=>aZ (Aj (y:=S.n) h' ab (by show S.n<(S.B++[t]).length;exact aE 0x3b5006ce0a420 rfl aw) (by show tot f+1<=42;exact aT 0x77b40a94e0a4347092c0092e705220d2a970520 rfl hn aI) ⟨A',a4,by show _<=(S.B++[t]).length;exact aT 0x1ded002a382908ace0a420 rfl aw ‹_›,a5,ad⟩) λg1 g2 g3=>?_;have R2:=K.set (ad c lc ab).2<|.list<|aM<|lc++[S.n];have s3:(m.set 25<|.int (c:Nat)) 3=j' (.ref<|aD 0):=b;have s4:(m.set 25<|.int (c:Nat)) 4=j' (.int (S.n:Nat)):=ao;have bj:=iJ h'.wf ab;refine co<|gn (K.get (ad c lc ab).2) (ac s4<|gu (K.get (ad c lc ab).2) (by rw[bV];unfold aR;exact ER ‹_› dd)<|b6<|k _ _ ?_) λP j=>aX<|ba s3 (K.get aP) rfl<|ac rfl<|gk (K.get a4) (cC a5 _) (ad c lc ab).1 j;refine⟨_,f.set c<|lc++[S.n],by rw[<-show aM lc++[V.int (S.n:Nat)]=aM (lc++[S.n])by rw[g_];rfl]at R2;exact R2,?_,?_,s3,s4,λx E=>hc x<|Ev _ E,by rw[g2];show tot f+1+_<=_;exact aT 0x1da384960849705c14828e12582125ce0a420 rfl aI,λk l0 h0=>?_,λx E=>?_,λo O=>?_⟩;.rw[show aM lc++[V.int (S.n:Nat)]=aM (lc++[S.n])by rw[g_];rfl];exact g1
   .rw[show aM lc++[V.int (S.n:Nat)]=aM (lc++[S.n])by rw[g_];rfl];refine b5 g3 λa x1 x2 x3 x4=>ee a x1 (by rw[<-aw];exact x2) x3 x4
   .refine aA (aY k l0 h0) λl1 y1 y2=>?_;by_cases e:k=c;.clear s hc z2 aJ aO g1 g2 g3 R2 s3 s4;subst e;rw[ab]at y1;obtain rfl:=EA y1;exact bm _ (Hz (EN.mp ab).1) λx E=>FK _<|y2 x E
    .exact bm l1 (by rw[Hn<|HF e];exact y1) y2
   .by_cases e:x=c;.clear s hc z2 aJ aO g1 g2 g3 R2 s3 s4;subst e;exact .inr ⟨_,Hz (EN.mp ab).1,Fz _<|ta.mpr rfl⟩
    .refine(aJ x E).elim (λh=>?_) λar=>aA ar λl1 J L=>?_;.exact .inl<|(EG.mp h).resolve_left e
     .exact .inr ⟨l1,by rw[Hn<|HF e];exact J,L⟩
   .rw[RH.aa<|by exact aT 0xef7d6730024fd22e504e638290893e4d7c915420 rfl aO O];exact hO o O
 .as_aux_lemma=>
   intro m H' s;refine jV s λO' f K h' r' b ao w z2=>bM z2 λaI aY aJ hO=>?_;refine ax h'.h λbc aP=>?_;have hK:dget S.Kk (nd S.B t)=.none:=by have:=mq h.bk.cl X S.B λw h=>h;rw[aC ht]at this;rw[P.Kk];exact this
   have av:bv {S with B:=S.B++[t],par:=E3<|S.n+1,ak:=(E3<|S.n+1).map λi=>[i],U:=f,c:=S.c+200*S.n} t=nd S.B t:=by show em t.sh ((a2 (S.B++[t]) t).map<|bW<|E3<|S.n+1)=_;rw[FJ (g:=id) λk w=>mu _ k,Ke,mv X];rfl
   have a9:(S.B++[t])[S.n]?=j' t:=by rw[Gm<|Hx ‹_›,aK,Jn];rfl
   have bd:S.n*S.n<=20*20:=J0 (Fp ‹_›)<|Fp ‹_›;have a_:=P.c;refine co<|bE b (K.get aP) rfl rfl<|ap<|ac ao<|aH<|sS K h' a9 (by show S.c+200*S.n+2<=100000;exact aT 0x77bda0c350116e125cc0190a151c0604c850a8ca26890d2a970520 rfl hn bd a_) λM af O2 H2 R2 L u bg=>aU<|ac ao ?_;have e:=Ak (by rw[av];exact hK) af;rw[av]at e;clear af;subst e;have aF:=bg (by rw[av];exact hK);refine b5 r' λa x1 x2 x3 x4=>q aD O2 H2 _ R2 ⟨L,?_,?_,?_,P.W,?_,?_,λaj hu=>?_,λd aj hu k am l0 a'=>?_,⟨a,by rw[aF _ dd];exact x1,by show a.length<=(S.B++[t]).length;rw[aw];exact x2,x3,λo m hl=>⟨(x4 o m hl).1,by rw[aF _<|EW<|Ew dd<|EB _ _];exact(x4 o m hl).2⟩⟩,?_,?_,⟨ds++[i],?_,?_⟩,λo O=>?_⟩ rfl (λo O=>he o<|Ew ‹_›<|EB _ _) λo O=>?_;.show E3 (S.n+1)=E3 (S.B++[t]).length;rw[aw]
   .show(E3<|S.n+1).map _=(E3 (S.B++[t]).length).map _;rw[aw]
   .show S.Kk++_=cr (S.B++[t]);rw[P.Kk,s_ h.bk.cl X ht];rfl
   .show S.c+200*S.n+1<=200*((S.B++[t]).length*(S.B++[t]).length)+(S.B++[t]).length;rw[aw,show(S.n+1)*(S.n+1)=S.n*S.n+2*S.n+1 by rw[Nat.mul_add,Nat.add_mul];exact aE 0xb382973022481cd0a5c1485cc08520 rfl];exact aT 0x768e705226382973042484c85382973046428147098132140 rfl a_
   .show(S.B++[t]).length<=21;exact aE 0x77b4aa436705200d2a970520 rfl hn aw
   .rcases E1.mp hu with hu|hu;.exact P.dp aj hu
    .rw[ta.mp hu];exact hd
   .change(S.B++[t])[d]?=j' aj at hu;change k∈a2 (S.B++[t]) aj at am;by_cases Q:d<S.n;.rw[Gb Q]at hu;have bb:=E0 hu;rw[mv<|h.bk.cl aj bb]at am;refine ax (jB h<|oF h.bk.cl bb k am) λl1 y1=>aA (aY k l1<|by rw[Gb (EN.mp y1).1];exact y1) λl2 s z2=>?_;rw[show f[k]?=j' l0 from a']at s;obtain rfl:=EA s;exact z2 d<|P.d8 d aj hu k am l1 y1
    .have ha:=(EN.mp hu).1;have:d=S.n:=by exact aT 0x77bdb045500bd508ace0a420 rfl aw Q ha
     clear Q ha;subst this;rw[a9]at hu;obtain rfl:=EA hu;rw[mv X]at am;refine(aJ k am).elim (λh=>?_) λan=>aA an λl1 J L=>?_;.exact(Ez h).elim
     .rw[show f[k]?=j' l0 from a']at J;obtain rfl:=EA J;exact L
   .show tot f<=2*(S.B++[t]).length;rw[aw];simp only[Ik]at aI;assumption
   .rw[aF _ dd,hO _<|by exact aB 0x72854b98e0a4024f935f24a9 rfl];exact q5
   .rw[aF _ dd,hO _<|by exact aB 0x72864b98e0a4024f935f24c9 rfl];exact q6
   .show(ds++[i]).length=(S.B++[t]).length;rw[aw,EH,ld];rfl
   .change 30+2*(S.B++[t]).length<=o at O;rw[aF _<|by exact aE 0x77d6624340b980127c9 rfl O,hO _<|by exact aT 0x3bde504e638290893e4d7c91504e60049f26ce0a420 rfl aw O,a1 _<|by exact aT 0xef77bdef7bdefd6730224fd22f59cc0893e48bd66a45eb2122f58e917ac648bd62a45eb1122f58691504e60049f26ce0a420 rfl aw O];exact P.dead o<|by exact aT 0x3bda09cc0893e4d04e60049f26ce0a420 rfl aw O
   .have ad:¬(o<=14\/30<=o):=O;rw[aF _<|by exact aB 0xefacc483dca03c9a3920 rfl ad,hO _<|by exact aE 0xef280731c148449f26be483dca03c9a3920 rfl ad,a1 _<|by exact aE 0x3bbdef7bdef7eb3981127e907ace60449f241eb3520f590907ac7483d63241eb1520f588907ac3483dca03c9a3920 rfl ad]
end
def b_(t:Tm)(B:List Tm):List Tm:=if t∈B then B else B++[t]
noncomputable def a9:Tm->List Tm->List Tm|.lf i,B=>b_ (.lf i) B|.un p t,B=>b_ (.un p t)<|a9 t B|.bi p r t,B=>b_ (.bi p r t)<|a9 t<|a9 r B
theorem mx(t:Tm)(B:List Tm):∃aD,b_ t B=B++aD:=by
 unfold b_;split;.exact⟨[],(FR B).symm⟩
 .exact⟨[t],rfl⟩
theorem oQ(t:Tm):∀B,∃aD,a9 t B=B++aD:=by induction t with|lf i=>exact mx _|un p t ih=>intro B;refine ax (ih B) λaD h=>ax (mx (.un p t)<|a9 t B) λF L=>⟨aD++F,by show b_ _ _=_;rw[L,h,FS]⟩|bi p r t m j=>intro B;refine ax (m B) λaD h=>ax (j<|a9 r B) λS J=>ax (mx (.bi p r t)<|a9 t<|a9 r B) λF L=>⟨aD++S++F,by show b_ _ _=_;rw[L,J,h];simp only[FS]⟩
theorem An(t:Tm)(B:List Tm):t∈b_ t B:=by
 unfold b_;split;.assumption
 .exact Fz _<|ta.mpr rfl
theorem iK(t:Tm)(B:List Tm):t∈a9 t B:=by induction t<;>exact An _ _
theorem oR(t:Tm)(B:List Tm):B.length<=(a9 t B).length:=by refine ax (oQ t B) λaD h=>h▸EH▸EB _ _
theorem oS(t:Tm)(B:List Tm):B.length<=(b_ t B).length:=by refine ax (mx t B) λaD h=>h▸EH▸EB _ _
theorem tc(h:aj∈B):aj∈a9 t B:=by refine ax (oQ t B) λaD e=>e▸FK _ h
theorem Ao(h:aj∈B):ix (a9 t B) aj=ix B aj:=by refine ax (oQ t B) λaD e=>?_;rw[e];show NO aj (B++aD)=_;rw[J7,aF h];rfl
section
variable{B:List Tm}
theorem hP(h:am tab ab e ((m.del i).set i x) H λA H'=>cV (eV ab e (.v i) .c0 m) o (ao++[A]) H' Kk):cV (eV ab e (.v i) .c0 m) (x::o) ao H Kk:=h
theorem iL(h:Kk ao H):cV (eV ab e o c m) [] ao H Kk:=h
theorem Ap(R:Rp Y al H)(P:Ph1 Y al S)(X:∀k∈t.kids,k∈S.B)(hd:t.dp<=2)(hn:(b_ t S.B).length<=21)(q:∀ae O' H' M,Rp ae O' H'->Ph1 ae O' M->M.B=b_ t S.B->(∀o,o<30->ae o=Y o)->Fr al O'->C (.int (ix (b_ t S.B) t:Nat)) H'):CN (G+5) 29 [.ref<|Y 0,.str<|a7 t.sh,.tup<|aM<|a2 S.B t] H C:=by
 by_cases c:t∈S.B;.have e:b_ t S.B=S.B:=aF c;rw[e]at q;exact sV (G:=G+3) R P.hs c<|q Y al H S R P rfl (λd d=>rfl)<|Fr.refl al
 .have e:b_ t S.B=S.B++[t]:=aC c;rw[e]at q hn;rw[EH]at hn;refine Am R P c X hd hn λae O' H' M J L b h4 h5=>?_;have:=q ae O' H' M J L b h4 h5;rwa[s9 c]at this
theorem Aq:∀l t,t.dp<l->∀Y al H S C,Rp Y al H->Ph1 Y al S->t.dp<=2->(a9 t S.B).length<=21->(∀ae O' H' M,Rp ae O' H'->Ph1 ae O' M->M.B=a9 t S.B->(∀o,o<30->ae o=Y o)->Fr al O'->C (.int (ix (a9 t S.B) t:Nat)) H')->CN (G+5+l) 30 [.ref<|Y 0,t.toV] H C:=by intro v1;induction v1 with|zero=>intro g h;exact aJ h<|GB _|succ l ih=>
  intro t aa;intro Y al H S C R P hd hn q;refine ax P.hs.h λdx hh=>?_;have fin:∀{f n aq a}{m:aL}(R1:Rp f n aq)(P1:Ph1 f n a)(X:∀k∈t.kids,k∈a.B)(hg:a9 t S.B=b_ t a.B)(he:∀o,o<30->f o=Y o)(u:Fr al n),CN (G+5+l) 29 [.ref<|Y 0,.str<|a7 t.sh,.tup<|aM<|a2 a.B t] aq λv H=>fD C (.rt v) m H:=λ{f n aq a m}R1 P1 X hg he u=>by rw[show G+5+l=G+l+5 by exact aE 0x167152e081c171520 rfl,<-he 0<|zc 0x15f2409 [] rfl];refine Ap R1 P1 X hd (hg▸hn) λae O' H' M J L b h4 h5=>?_;have:=q ae O' H' M J L (b▸hg▸rfl) (λo O=>(h4 o O).trans<|he o O)<|u.trans h5;rw[hg]at this;exact this
  have s:∀{f n aq a}(R1:Rp f n aq)(P1:Ph1 f n a)(he:∀o,o<30->f o=Y o),∃dx fs,aq (Y 0)=j' (.inst 5 dx fs)/\c7 fs 64=.none:=λ{f n aq a}R1 P1 he=>by refine ax P1.hs.h λdx hh=>?_;have:=R1.get hh;rw[he 0<|zc 0x15f2409 [] rfl]at this;exact dR _ _ this rfl
  clear q;cases t with|lf i=>refine a6 (fn:=j6) rfl rfl<|aU<|bE rfl (R.get hh) rfl rfl<|ap<|aX<|ac rfl<|aG ?_;show av (d2 _ (0:Nat)) _;rw[g' rfl dd,c6];refine ap<|hj<|c4<|ce<|fE<|ac rfl<|fZ (show 0<1000 by decide) ⟨a0<|show 0<=1000 by decide,iL ?_⟩;exact iH (show 0<=1000 by decide)<|aH<|fin R P (λd h=>(Ez h).elim) rfl (λd d=>rfl)<|Fr.refl al|un p t=>have hg:(a9 t S.B).length<=21:=ED (oS _ _) hn;refine a6 (fn:=j6) rfl rfl<|aU<|bE rfl (R.get hh) rfl rfl<|ap<|aX<|ac rfl<|aG ?_;show av (d2 _ (0:Nat)) _;rw[g' rfl dd,c6];refine ap<|hj<|c4<|ce<|fE<|ac rfl<|fZ (show 1<1000 by decide) ⟨a0<|show 1<=1000 by decide,hP ?_⟩;refine bE rfl (R.get hh) rfl rfl<|ap<|ac rfl<|aH<|ih t (Ic aa) _ _ _ _ _ R P (Nat.le_of_succ_le hd) hg λf n aq a R1 P1 e1 he u=>?_;have X:∀k∈(Tm.un p t).kids,k∈a.B:=λk X=>ta.mp X▸e1▸iK t _;refine iL<|iH (z:=[V.int (ix (a9 t S.B) t:Nat)]) (show 1<=1000 by decide)<|aH ?_;exact e1▸fin R1 P1 X (e1.symm▸rfl) he u|bi p r t=>
   have hg:(a9 t<|a9 r S.B).length<=21:=ED (oS _ _) hn;have j:r.dp<l/\t.dp<l:=by have J:=jA (t:=.bi p r t) (k:=r) Eu;have L:=jA (t:=.bi p r t) (k:=t)<|Ev _<|ta.mpr rfl;exact cy 0x3bdeeea11d422a807500aae0a420 rfl aa J L
   have N:r.dp<=2/\t.dp<=2:=by exact aT 0x3bdeee8248a82486a015401a0920 rfl hd (jA (t:=.bi p r t) (k:=r) Eu)<|jA (t:=.bi p r t) (k:=t)<|Ev _<|ta.mpr rfl
   refine a6 (fn:=j6) rfl rfl<|aU<|bE rfl (R.get hh) rfl rfl<|ap<|aX<|ac rfl<|aG ?_;show av (d2 _ (0:Nat)) _;rw[g' rfl dd,c6];refine ap<|hj<|c4<|ce<|fE<|ac rfl<|fZ (show 2<1000 by decide) ⟨a0<|show 2<=1000 by decide,hP ?_⟩;refine bE rfl (R.get hh) rfl rfl<|ap<|ac rfl<|aH<|ih r j.1 _ _ _ _ _ R P N.1 (ED (oR t _) hg) λf n aq a R1 P1 e1 he u=>?_;refine bn (s R1 P1 he) λa8 A g1 g2=>hP<|bE rfl g1 g2 rfl<|ap<|ac rfl<|aH ?_;show CN (G+5+l) 30 [.ref<|Y 0,t.toV] aq _;rw[<-he 0<|zc 0x15f2409 [] rfl];refine ih t j.2 _ _ _ _ _ R1 P1 N.2 (e1▸hg) λan O2 H2 D R2 P2 e2 w y=>?_;have eg:r∈a.B:=e1▸iK r _;have X:∀k∈(Tm.bi p r t).kids,k∈D.B:=λk X=>by
    rw[e2];rcases EG.mp X with rfl|X;.exact tc eg
    .exact ta.mp X▸iK t _
   refine iL<|iH (z:=[V.int (ix (a9 r S.B) r:Nat),V.int (ix (a9 t a.B) t:Nat)]) (show 2<=1000 by decide)<|aH ?_;have e:[V.int (ix (a9 r S.B) r:Nat),V.int (ix (a9 t a.B) t:Nat)]=aM (a2 D.B<|.bi p r t):=by show _=[V.int (ix D.B r:Nat),V.int (ix D.B t:Nat)];rw[e2,Ao eg,e1]
   exact e▸he 0 (zc 0x15f2409 [] rfl)▸fin R2 P2 X (e2.symm▸e1.symm▸rfl) (λo O=>(w o O).trans<|he o O) (u.trans y)
end
section
variable{m:aL}
theorem gR(hl:m i=j' (.ref d))(A:H d=j' (.inst c dx fs))(hf:fs.length<=20)(q:Kk m<|H.set d<|.inst c dx<|dM fs l v):bY tab ab (.attr (.v i) l) v m H Kk:=by show av (m i) _;rw[hl];show av (H d) _;exact A▸⟨hf,q⟩
theorem hg(R:Rp Y al H)(hl:m 3=j' (.ref<|Y r))(hs:al r=j' (.inst c dx fs))(O:al o=kf)(a:r≠o)(hf:fs.length<=20)(k:∀d H',Rp (Y.upd o d) ((al.upd o<|.list []).upd r<|.inst c dx<|dM fs l<|.ref d) H'->aV tab ab w m H' A):aV tab ab (.cons (.asg (.attr (.v 3) l)<|.lst Do .nil) w) m H A:=by refine b4<|oP<|aH λd ha=>?_;have R1:=R.new ha O<|.list [];have e:(al.upd o<|.list []) r=j' (.inst c dx fs):=(RH.aa a).trans hs;have R2:=R1.set e<|.inst c dx<|dM fs l<|.ref d;have g:=R1.get e;rw[Ad.aa a]at R2 g;exact gR hl g hf<|k d _ R2
theorem kZ(R:Rp Y al H)(hl:m 3=j' (.ref<|Y r))(hs:al r=j' (.inst c dx fs))(O:al o=kf)(a:r≠o)(hf:fs.length<=20)(k:∀d H',Rp (Y.upd o d) ((al.upd o<|.dict []).upd r<|.inst c dx<|dM fs l<|.ref d) H'->aV tab ab w m H' A):aV tab ab (.cons (.asg (.attr (.v 3) l) .bf) w) m H A:=by refine b4<|show am tab ab .bf m H _ fromλd ha=>?_;have R1:=R.new ha O<|.dict [];have e:(al.upd o<|.dict []) r=j' (.inst c dx fs):=(RH.aa a).trans hs;have R2:=R1.set e<|.inst c dx<|dM fs l<|.ref d;have g:=R1.get e;rw[Ad.aa a]at R2 g;exact gR hl g hf<|k d _ R2
theorem Ar(R:Rp Y al H)(J:al 1=j' (.inst 3 dx []))(b:al 3=kf)(h4:al 4=kf)(h5:al 5=kf)(h6:al 6=kf)(q:∀ae O' H',Rp ae O' H'->(∀o,o≠3/\o≠4/\o≠5/\o≠6->ae o=Y o)->O' 1=j' (.inst 3 dx [(44,.ref<|ae 3),(45,.ref<|ae 4),(46,.ref<|ae 5),(47,.ref<|ae 6)])->O' 3=j' (.list [])->O' 4=j' (.dict [])->O' 5=j' (.list [])->O' 6=j' (.list [])->(∀o,o≠1/\o≠3/\o≠4/\o≠5/\o≠6->O' o=al o)->C .none H'):CN (G+1) 15 [.ref<|Y 1] H C:=by
 refine a6 (fn:=qf) rfl rfl<|hg R (r:=1) (o:=3) rfl J b dd (show 0<=20 by decide) λw H3 R3=>?_;refine kZ R3 (r:=1) (o:=4) (by rfl) RH.ae h4 dd (show 1<=20 by decide) λj H4 z=>hg z (r:=1) (o:=5) (by rfl) RH.ae h5 dd (show 2<=20 by decide) λd H5 R5=>hg R5 (r:=1) (o:=6) (by rfl) RH.ae h6 dd (show 3<=20 by decide) λe H6 R6=>b6<|q _ _ H6 R6 (λo O=>?_) ?_ ?_ ?_ ?_ ?_ λo O=>?_;.rw[Ad.aa<|by exact aB 0x1df58c906f7bf58c907ac5483d62241eb0d20 rfl O,Ad.aa<|by exact aB 0x1df58a906f7bf58c907ac5483d62241eb0d20 rfl O,Ad.aa<|by exact aB 0x1df588906f7bf58c907ac5483d62241eb0d20 rfl O,Ad.aa<|by exact aB 0x1df586906f7bf58c907ac5483d62241eb0d20 rfl O]
 .rw[RH.ae,Ad.ae];rfl
 .rw[RH.aa dd,RH.aa dd,RH.aa dd,RH.aa dd,RH.aa dd,RH.aa dd,RH.aa dd,RH.ae]
 .rw[RH.aa dd,RH.aa dd,RH.aa dd,RH.aa dd,RH.aa dd,RH.ae]
 .rw[RH.aa dd,RH.aa dd,RH.aa dd,RH.ae]
 .rw[RH.aa dd,RH.ae]
 .rw[RH.aa<|by exact aB 0x77d60a41bdef7eb1920f58a907ac4483d61a41eb0520 rfl O,RH.aa<|by exact aB 0x77d63241bdef7eb1920f58a907ac4483d61a41eb0520 rfl O,RH.aa<|by exact aB 0x77d60a41bdef7eb1920f58a907ac4483d61a41eb0520 rfl O,RH.aa<|by exact aB 0x77d62a41bdef7eb1920f58a907ac4483d61a41eb0520 rfl O,RH.aa<|by exact aB 0x77d60a41bdef7eb1920f58a907ac4483d61a41eb0520 rfl O,RH.aa<|by exact aB 0x77d62241bdef7eb1920f58a907ac4483d61a41eb0520 rfl O,RH.aa<|by exact aB 0x77d60a41bdef7eb1920f58a907ac4483d61a41eb0520 rfl O,RH.aa<|by exact aB 0x77d61a41bdef7eb1920f58a907ac4483d61a41eb0520 rfl O]
theorem As(R:Rp Y al H)(L:al 2=j' (.inst 4 dx []))(h7:al 7=kf)(E:al 8=kf)(af:al 9=kf)(q:∀ae O' H',Rp ae O' H'->(∀o,o≠7/\o≠8/\o≠9->ae o=Y o)->O' 2=j' (.inst 4 dx [(49,.ref<|ae 7),(50,.ref<|ae 8),(51,.ref<|ae 9)])->O' 7=j' (.list [])->O' 8=j' (.list [])->O' 9=j' (.list [])->(∀o,o≠2/\o≠7/\o≠8/\o≠9->O' o=al o)->C .none H'):CN (G+1) 20 [.ref<|Y 2] H C:=by
 refine a6 (fn:=qj) rfl rfl<|hg R (r:=2) (o:=7) rfl L h7 dd (show 0<=20 by decide) λw H3 R3=>?_;refine hg R3 (r:=2) (o:=8) (by rfl) RH.ae E dd (show 1<=20 by decide) λj H4 z=>hg z (r:=2) (o:=9) (by rfl) RH.ae af dd (show 2<=20 by decide) λd H5 R5=>b6<|q _ _ H5 R5 (λo O=>?_) ?_ ?_ ?_ ?_ λo O=>?_;.rw[Ad.aa<|by exact aB 0x77d64a41bdfac9483d64241eb1d20 rfl O,Ad.aa<|by exact aB 0x77d64241bdfac9483d64241eb1d20 rfl O,Ad.aa<|by exact aB 0x77d63a41bdfac9483d64241eb1d20 rfl O]
 .rw[RH.ae,Ad.ae];rfl
 .rw[RH.aa dd,RH.aa dd,RH.aa dd,RH.aa dd,RH.aa dd,RH.ae]
 .rw[RH.aa dd,RH.aa dd,RH.aa dd,RH.ae]
 .rw[RH.aa dd,RH.ae]
 .rw[RH.aa<|by exact aB 0x1df584906f7bf592907ac8483d63a41eb0920 rfl O,RH.aa<|by exact aB 0x1df592906f7bf592907ac8483d63a41eb0920 rfl O,RH.aa<|by exact aB 0x1df584906f7bf592907ac8483d63a41eb0920 rfl O,RH.aa<|by exact aB 0x1df590906f7bf592907ac8483d63a41eb0920 rfl O,RH.aa<|by exact aB 0x1df584906f7bf592907ac8483d63a41eb0920 rfl O,RH.aa<|by exact aB 0x1df58e906f7bf592907ac8483d63a41eb0920 rfl O]
theorem Au(R:Rp Y al H)(hl:m 3=j' (.ref<|Y 0))(h0:al 0=j' (.inst 5 dx [(53,.ref<|Y 1),(54,.ref<|Y 2)]))(dd:∀o,o=10\/o=11\/o=12\/o=13\/o=14->al o=kf)(q:∀ae O' H',Rp ae O' H'->(∀o,o≠10/\o≠11/\o≠12/\o≠13/\o≠14->ae o=Y o)->O' 0=j' (.inst 5 dx [(53,.ref<|Y 1),(54,.ref<|Y 2),(55,.ref<|ae 10),(56,.ref<|ae 11),(57,.ref<|ae 12),(49,.ref<|ae 13),(37,.ref<|ae 14)])->O' 10=j' (.list [])->O' 11=j' (.list [])->O' 12=j' (.dict [])->O' 13=j' (.dict [])->O' 14=j' (.list [])->(∀o,o≠0/\o≠10/\o≠11/\o≠12/\o≠13/\o≠14->O' o=al o)->A .nx m H'):aV tab ab (.cons (.asg (.attr (.v 3) 55)<|.lst Do .nil)<|.cons (.asg (.attr (.v 3) 56)<|.lst Do .nil)<|.cons (.asg (.attr (.v 3) 57) .bf)<|.cons (.asg (.attr (.v 3) 49) .bf)<|.cons (.asg (.attr (.v 3) 37)<|.lst Do .nil) .nil) m H A:=by
 refine hg R (r:=0) (o:=10) hl h0 (dd 10<|by decide) (by decide) (show 2<=20 by decide) λf H7 I=>hg I (r:=0) (o:=11) hl RH.ae (dd 11<|by decide) (by decide) (show 3<=20 by decide) λe H8 N=>kZ N (r:=0) (o:=12) hl RH.ae (dd 12<|by decide) (by decide) (show 4<=20 by decide) λi H9 R9=>kZ R9 (r:=0) (o:=13) hl RH.ae (dd 13<|by decide) (by decide) (show 5<=20 by decide) λj l a=>hg a (r:=0) (o:=14) hl RH.ae (dd 14<|by decide) (by decide) (show 6<=20 by decide) λn b d=>b6<|q _ _ b d (λo O=>?_) ?_ ?_ ?_ ?_ ?_ ?_ λo O=>?_;.rw[Ad.aa<|by exact aB 0x77d67241bdef7eb3920f59a907acc483d65a41eb2920 rfl O,Ad.aa<|by exact aB 0x77d66a41bdef7eb3920f59a907acc483d65a41eb2920 rfl O,Ad.aa<|by exact aB 0x77d66241bdef7eb3920f59a907acc483d65a41eb2920 rfl O,Ad.aa<|by exact aB 0x77d65a41bdef7eb3920f59a907acc483d65a41eb2920 rfl O,Ad.aa<|by exact aB 0x77d65241bdef7eb3920f59a907acc483d65a41eb2920 rfl O]
 .rw[RH.ae,Ad.ae];rfl
 .rw[RH.aa<|by decide,RH.aa<|by decide,RH.aa<|by decide,RH.aa<|by decide,RH.aa<|by decide,RH.aa<|by decide,RH.aa<|by decide,RH.aa<|by decide,RH.aa<|by decide,RH.ae]
 .rw[RH.aa<|by decide,RH.aa<|by decide,RH.aa<|by decide,RH.aa<|by decide,RH.aa<|by decide,RH.aa<|by decide,RH.aa<|by decide,RH.ae]
 .rw[RH.aa<|by decide,RH.aa<|by decide,RH.aa<|by decide,RH.aa<|by decide,RH.aa<|by decide,RH.ae]
 .rw[RH.aa<|by decide,RH.aa<|by decide,RH.aa<|by decide,RH.ae]
 .rw[RH.aa<|by decide,RH.ae]
 .rw[RH.aa<|by exact aB 0x1df580906f7bdefd67241eb3520f598907acb483d65241eb0120 rfl O,RH.aa<|by exact aB 0x1df59c906f7bdefd67241eb3520f598907acb483d65241eb0120 rfl O,RH.aa<|by exact aB 0x1df580906f7bdefd67241eb3520f598907acb483d65241eb0120 rfl O,RH.aa<|by exact aB 0x1df59a906f7bdefd67241eb3520f598907acb483d65241eb0120 rfl O,RH.aa<|by exact aB 0x1df580906f7bdefd67241eb3520f598907acb483d65241eb0120 rfl O,RH.aa<|by exact aB 0x1df598906f7bdefd67241eb3520f598907acb483d65241eb0120 rfl O,RH.aa<|by exact aB 0x1df580906f7bdefd67241eb3520f598907acb483d65241eb0120 rfl O,RH.aa<|by exact aB 0x1df596906f7bdefd67241eb3520f598907acb483d65241eb0120 rfl O,RH.aa<|by exact aB 0x1df580906f7bdefd67241eb3520f598907acb483d65241eb0120 rfl O,RH.aa<|by exact aB 0x1df594906f7bdefd67241eb3520f598907acb483d65241eb0120 rfl O]
noncomputable def S0:St:={B:=[],par:=[],ak:=[],U:=[],Kk:=[],W:=[],c:=0}
theorem Av(R:Rp Y al H)(h0:al 0=j' (.inst 5 dx []))(hd:∀o,HR o->o≠0->al o=kf)(q:∀ae O' H',Rp ae O' H'->Ph1 ae O' S0->(∀o,o=0\/¬HR o->ae o=Y o)->Fr al O'->C .none H'):CN (G+2) 27 [.ref<|Y 0] H C:=by
 have b:∀o,o<=14\/30<=o->o≠0->al o=.none:=hd;refine a6 (fn:=qq) rfl rfl<|b4<|jv (c:=3) (w:=15) rfl<|aH λaa d1 ad n ao=>?_;rw[show V.ref aa=.ref ((Y.upd 1 aa) 1)by rw[Ad.ae]];refine Ar ((R.dead n .b9).new (o:=1) (d:=aa) (by rw[Hp.af _ _ ao];exact ad) (b 1 (by decide)<|by decide)<|.inst 3 d1 []) RH.ae (b 3 (by decide)<|by decide) (b 4 (by decide)<|by decide) (b 5 (by decide)<|by decide) (b 6 (by decide)<|by decide) λan O2 H2 R2 e2 M am A ap aq f2=>⟨rfl,?_⟩;have a:an 0=Y 0:=by rw[e2 _<|by decide,Ad.aa<|by decide]
 have z:O2 0=j' (.inst 5 dx []):=by rw[f2 _<|by decide];exact h0
 have R3:=R2.set z<|.inst 5 dx<|dM [] 53<|.ref<|an 1;rw[e2 1<|by decide]at R3;have g0:=R2.get z;rw[a]at g0;refine gR rfl g0 (show 0<=20 by decide) ?_;rw[a]at R3;show aV tab (CN<|G+1) _ _ (H2.set (Y 0)<|.inst 5 dx<|dM [] 53<|.ref<|(Y.upd 1 aa) 1) _;generalize H2.set (Y 0) (.inst 5 dx<|dM [] 53<|.ref<|(Y.upd 1 aa) 1)=H3 at R3⊢;rw[<-e2 1<|by decide]at R3;refine b4<|jv (c:=4) (w:=20) rfl<|aH λS K ar N D=>?_;rw[show V.ref S=.ref ((an.upd 2 S) 2)by rw[Ad.ae]];have dd:∀o,o=7\/o=8\/o=9->((O2.upd 0<|.inst 5 dx<|dM [] 53<|.ref<|an 1).upd 2<|.inst 4 K []) o=.none:=λo O=>by rw[RH.aa<|by exact aB 0xefac24839cb2520b2120b1d20 rfl O,RH.aa<|by exact aB 0xefac04839cb2520b2120b1d20 rfl O,f2 _<|by exact aB 0xeef7bdfac6483d62a41eb1120f586907ac14839cb2520b2120b1d20 rfl O,RH.aa<|by exact aB 0xefac14839cb2520b2120b1d20 rfl O];exact b o (by exact aB 0xef280f268e4839cb2520b2120b1d20 rfl O)<|by exact aB 0xefac04839cb2520b2120b1d20 rfl O
 refine As ((R3.dead N .b9).new (o:=2) (d:=S) (by rw[Hp.af _ _ D];exact ar) (by rw[RH.aa<|by decide,f2 _<|by decide,RH.aa<|by decide];exact b 2 (by decide)<|by decide)<|.inst 4 K []) RH.ae (dd 7<|by decide) (dd 8<|by decide) (dd 9<|by decide) λJ O5 H5 R5 e5 as av aw ay Q=>⟨rfl,?_⟩;have E:J 0=Y 0:=by rw[e5 _<|by decide,Ad.aa<|by decide,a]
 have X:O5 0=j' (.inst 5 dx [(53,.ref<|an 1)]):=by rw[Q _<|by decide];rfl
 have R6:=R5.set X<|.inst 5 dx [(53,.ref<|an 1),(54,.ref<|J 2)];have g0:=R5.get X;rw[E]at g0;refine gR rfl g0 (show 1<=20 by decide) ?_;rw[E,e5 2<|by decide]at R6;show aV tab (CN<|G+1) _ _ (H5.set (Y 0)<|.inst 5 dx [(53,.ref<|an 1),(54,.ref<|(an.upd 2 S) 2)]) _;generalize H5.set (Y 0) (.inst 5 dx [(53,.ref<|an 1),(54,.ref<|(an.upd 2 S) 2)])=H6 at R6⊢;rw[<-e5 2<|by decide]at R6;have az:J 1=an 1:=by rw[e5 _<|by decide,Ad.aa<|by decide]
 rw[<-az]at R6;have j:∀o,o≠0/\o≠2/\o≠7/\o≠8/\o≠9->(O5.upd 0<|.inst 5 dx [(53,.ref<|J 1),(54,.ref<|J 2)]) o=O2 o:=λo O=>by rw[RH.aa<|by exact aB 0x77d60241bdef7eb2520f590907ac7483d61241eb0120 rfl O,Q _<|by exact aB 0x1ddef7eb2520f590907ac7483d61241bdef7eb2520f590907ac7483d61241eb0120 rfl O,RH.aa<|by exact aB 0x77d61241bdef7eb2520f590907ac7483d61241eb0120 rfl O,RH.aa<|by exact aB 0x77d60241bdef7eb2520f590907ac7483d61241eb0120 rfl O]
 have Z:∀o,o≠0->(O5.upd 0<|.inst 5 dx [(53,.ref<|J 1),(54,.ref<|J 2)]) o=O5 o:=λo O=>RH.aa O;have ab:(O5.upd 0<|.inst 5 dx [(53,.ref<|J 1),(54,.ref<|J 2)]) 0=j' (.inst 5 dx [(53,.ref<|J 1),(54,.ref<|J 2)]):=RH.ae;generalize O5.upd 0 (.inst 5 dx [(53,.ref<|J 1),(54,.ref<|J 2)])=O6 at R6 j Z ab;have dd:∀o,o=10\/o=11\/o=12\/o=13\/o=14\/30<=o->O6 o=.none:=λo O=>by rw[j _<|by exact aB 0x777bdefd64a41eb2120f58e907ac2483d60241ce739ca03c9b3920b3520b3120b2d20b2920 rfl O,f2 _<|by exact aB 0x777bdefd63241eb1520f588907ac3483d60a41ce739ca03c9b3920b3520b3120b2d20b2920 rfl O,RH.aa<|by exact aB 0x77d60a41ce739ca03c9b3920b3520b3120b2d20b2920 rfl O];exact b o (by exact aB 0x7794079347241ce739ca03c9b3920b3520b3120b2d20b2920 rfl O)<|by exact aB 0x77d60241ce739ca03c9b3920b3520b3120b2d20b2920 rfl O
 refine Au R6 (by rw[E];rfl) ab (λo O=>dd o<|aB 0x3bce739ca03c9b3920b3520b3120b2d20b2920e739cb3920b3520b3120b2d20b2920 rfl O) λL r H7 I af aA aC aD aF ac aG ax=>?_;have l:∀o,o<=9->L o=J o:=λo O=>af o<|aB 0x3bbdef7eb3920f59a907acc483d65a41eb2920a2520 rfl O;have f:∀o,o=3\/o=4\/o=5\/o=6\/o=1->r o=O2 o:=λo O=>by rw[ax _<|by exact aB 0xeef7bdefd67241eb3520f598907acb483d65241eb0120e739cb0520b1920b1520b1120b0d20 rfl O,j _<|by exact aB 0x3bbdef7eb2520f590907ac7483d61241eb0120e739cb0520b1920b1520b1120b0d20 rfl O]
 have s:∀o,o=2\/o=7\/o=8\/o=9->r o=O5 o:=λo O=>by rw[ax _<|by exact aB 0x777bdef7eb3920f59a907acc483d65a41eb2920f58090739cb2520b2120b1d20b0920 rfl O,Z _<|by exact aB 0x1df58090739cb2520b2120b1d20b0920 rfl O]
 have u:∀o,3<=o/\o<=6->J o=an o:=λo O=>by rw[e5 _<|by exact aB 0x777bf592907ac8483d63a41ba1920a0069 rfl O,Ad.aa<|by exact aB 0x77d61241ba1920a0069 rfl O]
 have hs:HS L r S0:=⟨⟨⟨rfl,λd=>EM d⟩,rfl,λo O=>aJ O<|GB o,rfl,λm hl=>(Ez hl).elim,E8 _,λy hm=>(Ez hm).elim,λe he=>(Ez he).elim⟩,⟨Hu,λt ht=>(Ez ht).elim,show 0<64 by decide,⟨d1,by rw[f 1<|by decide,M,l 3<|by decide,l 4<|by decide,l 5<|by decide,l 6<|by decide,u 3<|by decide,u 4<|by decide,u 5<|by decide,u 6<|by decide]⟩,by rw[f 3<|by decide];exact am,by rw[f 4<|by decide];exact A⟩,⟨⟨rfl,λd=>EM d⟩,show 0<64 by decide,⟨K,by rw[s 2<|by decide,as,l 7<|by decide,l 8<|by decide,l 9<|by decide]⟩,by rw[s 7<|by decide];exact av⟩,⟨dx,by rw[aA,l 1<|by decide,l 2<|by decide]⟩,by rw[s 8<|by decide];exact aw,λi m hl=>aP hl,aF,⟨[],ac,λe he=>(Ez he).elim,show 0<=100 by decide,λo m p hl=>aP hl⟩,aG,⟨0,0,0,⟨[],aC,rfl⟩,⟨[],aD,rfl⟩,⟨[],by rw[s 9<|by decide];exact ay,rfl⟩,EM _⟩,E8 _⟩;refine q L r H7 I ⟨hs,rfl,rfl,rfl,rfl,EM _,E8 _,λaj hu=>(Ez hu).elim,λd t ht=>aP ht,⟨[],ac,EM _,λe he=>(Ez he).elim,λo m hl=>aP hl⟩,EM _,by rw[f 5<|by decide];exact ap,⟨[],by rw[f 6<|by decide];exact aq,rfl⟩,λo O=>?_⟩ (λo O=>?_) λo O=>?_;.have O:30<=o:=O;rw[ax _<|by exact aB 0xeef7bdefd67241eb3520f598907acb483d65241eb0120a03c9 rfl O];exact dd o<|by exact aE 0x779ce73940f936724366a436624365a436524340b980127c9 rfl ‹_›
 .have O:o=0\/¬(o<=14\/30<=o):=O;rw[af o<|by exact aB 0x1ddef7bf59c907acd483d66241eb2d20f5949073dca03c9a3920b0120 rfl O,e5 o<|by exact aB 0x1ddefd64a41eb2120f58e9073dca03c9a3920b0120 rfl O,Ad.aa<|by exact aB 0x1df5849073dca03c9a3920b0120 rfl O,e2 o<|by exact aB 0x777bdfac6483d62a41eb1120f5869073dca03c9a3920b0120 rfl O,Ad.aa<|by exact aB 0x1df5829073dca03c9a3920b0120 rfl O]
 .have O:¬(o<=14\/30<=o):=O;rw[ax _<|by exact aB 0x3bbdef7bf59c907acd483d66241eb2d20f594907ac0483dca03c9a3920 rfl O,j _<|by exact aB 0xeef7bdfac9483d64241eb1d20f584907ac0483dca03c9a3920 rfl O,f2 _<|by exact aB 0xeef7bdfac6483d62a41eb1120f586907ac1483dca03c9a3920 rfl O,RH.aa<|by exact aB 0xefac1483dca03c9a3920 rfl O]
end
theorem Aw{Y:Ad}{al:RH}{S:St}{T:Tm->Tm->Prop}(P:Ph1 Y al S):Inv S T:=by
 have rt:∀d,S.rt d=d:=λd=>by show bW S.par d=d;exact P.par▸mu _ d
 have cl:=P.hs.bk.cl;refine⟨λR n d p t aj ha hb e=>?_,λab y hm=>?_,λd t ha=>.inr ⟨d,?_,rfl⟩,λd t ha k X m hl=>P.d8 d t ha k X m<|by rw[rt]at hl;exact hl⟩;.rw[rt,rt]at e;subst e;rw[ha]at hb;obtain rfl:=EA hb;exact n.refl t
 .rw[P.Kk]at hm;refine aA (EO.mp<|su hm) λt ht e=>?_;have e1:nd S.B t=ab:=(OS e).1;have e2:ix S.B t=y:=by have:=(OS e).2;injection this with h;exact Gl.mp h
  refine dZ t (a2 S.B t) (e2▸eu ht) e1.symm λR n=>db.self λx E aj hu=>?_;rw[eu<|cl t ht x E]at hu;obtain rfl:=EA hu;exact n.refl x
 .have ht:=E0 ha;have e:bv S t=nd S.B t:=by dsimp only[bv,nd];rw[FJ (g:=id) λk c=>rt k,Ke]
  have:=mq cl (cl t ht) S.B λc h=>h;rw[aF ht]at this;rw[e,P.Kk,show dget (cr S.B) (nd S.B t)=_ from this,oC P.hs.bk.fm ha]
structure Dom(β:Type)where
 ok:β->Prop
 le:β->β->Prop
 meet:β->β->β
 F:Sh->List β->β
 top:β
 ah:β
 rk:β->Nat
structure Dom.Law{β:Type}(D:Dom β):Prop where
 c9:D.ok D.top
 le_top:∀{a},D.ok a->D.le a D.top
 refl:∀a,D.le a a
 trans:∀{a b c},D.le a b->D.le b c->D.le a c
 anti:∀{a b},D.ok a->D.ok b->D.le a b->D.le b a->a=b
 meet_ok:∀{a b},D.ok a->D.ok b->D.ok (D.meet a b)dk:∀{a b},D.ok a->D.ok b->D.le (D.meet a b) a
 ef:∀{a b},D.ok a->D.ok b->D.le (D.meet a b) b
 le_meet:∀{a b c},D.ok a->D.ok b->D.ok c->D.le c a->D.le c b->D.le c (D.meet a b)gg:∀{s xs},xs.length=s.ar->(∀x∈xs,D.ok x)->D.ok (D.F s xs)mono:∀{s xs ys},xs.length=s.ar->(∀x∈xs,D.ok x)->(∀y∈ys,D.ok y)->db D.le xs ys->D.le (D.F s xs) (D.F s ys)rk_lt:∀{a b},D.ok a->D.ok b->D.le a b->a≠b->D.rk a<D.rk b
 rk_le:∀{a},D.ok a->D.rk a<=30
 dq:D.ok D.ah
structure PostFix{β:Type}(D:Dom β)(B:List Tm)(T:Tm->Tm->Prop)(Y:Tm->β):Prop where
 ok:∀t,D.ok (Y t)R:∀t u,(∀R,Cgr B T R->R t u)->Y t=Y u
 le:∀t∈B,D.le (Y t)<|D.F t.sh<|t.kids.map Y
section
variable(Q:Dom β)
noncomputable def aS:List (Nat×β)->Nat->β|[],_=>Q.top|(k,x)::o,c=>if k=c then x else aS o c
variable{Q}
noncomputable def cJ:List (Nat×β)->Nat->β->List (Nat×β)|[],c,u=>[(c,u)]|(k,x)::o,c,u=>if k=c then(k,u)::o else(k,x)::cJ o c u
noncomputable def a'(aa:β->V)(an:List<|Nat×β):List<|V×V:=an.map λe=>(V.int (e.1:Nat),aa e.2)
theorem ec(aa:β->V)(an:List<|Nat×β):d'<|a' aa an:=λe he=>by refine aA (EO.mp he) λx d s=>?_;clear he;subst s;exact⟨_,rfl⟩
theorem iM(h:d≠p):V.int (d:Nat)≠V.int (p:Nat):=λe=>h<|by injection e with e;exact Gl.mp e
theorem k2(ht:aa Q.top=.none)(an:List<|Nat×β)(c:Nat):(dget (a' aa an)<|.int (c:Nat)).getD .none=aa (aS Q an c):=by induction an with|nil=>exact ht.symm|cons e an ih=>
  obtain⟨k,x⟩:=e;show(if V.int (k:Nat)=V.int (c:Nat)then j' (aa x)else dget (a' aa an)<|.int (c:Nat)).getD .none=aa (if k=c then x else aS Q an c);by_cases h:k=c;.rw[aF<|by rw[h],aF h];rfl
  .rw[aC<|iM h,aC h];exact ih
theorem iN(an:List<|Nat×β)(c:Nat)(u:β):bC (a' aa an) (.int (c:Nat)) (aa u)=a' aa (cJ an c u):=by induction an with|nil=>rfl|cons e an ih=>
  obtain⟨k,x⟩:=e;show(if V.int (k:Nat)=V.int (c:Nat)then _ else _::bC (a' aa an) (.int (c:Nat)) (aa u))=a' aa (if k=c then _ else _);by_cases h:k=c;.rw[aF<|by rw[h],aF h];rfl
  .rw[aC<|iM h,aC h,ih];rfl
theorem hk(an:List<|Nat×β)(c G:Nat)(u:β):aS Q (cJ an c u) G=if c=G then u else aS Q an G:=by induction an with|nil=>rfl|cons e an ih=>
  obtain⟨k,x⟩:=e;show aS Q (if k=c then _ else _) G=if c=G then u else if k=G then x else aS Q an G;by_cases h:k=c
  .rw[aF h,<-h];show(if k=G then u else aS Q an G)=_;by_cases L:k=G;.rw[aF L,aF L]
   .rw[aC L,aC L,aC L]
  .rw[aC h];show(if k=G then x else aS Q (cJ an c u) G)=_;rw[ih];by_cases L:k=G;.rw[aF L,aC λe=>h<|L.trans e.symm,aF L]
   .rw[aC L,aC L]
theorem iO{an:List<|Nat×β}{c:Nat}{u:β}{e:Nat×β}(h:e∈cJ an c u):e=(c,u)\/e∈an:=by induction an with|nil=>exact .inl<|ta.mp h|cons w an ih=>
  obtain⟨k,x⟩:=w;change e∈if k=c then _ else _ at h;by_cases hc:k=c
  .rw[aF hc]at h;rcases EG.mp h with h|h;.left;rw[h,hc]
   .exact .inr<|Ev _ h
  .rw[aC hc]at h;rcases EG.mp h with h|h;.right;exact h▸Eu
   .exact(ih h).imp id<|Ev _
theorem k3(an:List<|Nat×β)(c:Nat)(u:β):(cJ an c u).map Fe=if c∈an.map Fe then an.map Fe else an.map Fe++[c]:=by induction an with|nil=>rfl|cons w an ih=>
  obtain⟨k,x⟩:=w;show(if k=c then(k,u)::an else(k,x)::cJ an c u).map Fe=if c∈k::an.map Fe then k::an.map Fe else k::an.map Fe++[c];by_cases hc:k=c;.rw[aF hc,aF<|by rw[hc];exact Eu];rfl
  .rw[aC hc];show k::(cJ an c u).map Fe=_;rw[ih];by_cases L:c∈an.map Fe;.rw[aF L,aF<|Ev _ L]
   .rw[aC L,aC λh=>(EG.mp h).elim (λe=>hc e.symm) L];rfl
theorem my{an:List<|Nat×β}{c:Nat}:(c,aS Q an c)∈an\/aS Q an c=Q.top:=by induction an with|nil=>exact .inr rfl|cons w an ih=>
  obtain⟨k,x⟩:=w;show(c,if k=c then x else aS Q an c)∈_\/(if k=c then x else aS Q an c)=Q.top;by_cases hc:k=c;.exact aF hc▸hc▸.inl Eu
  .exact aC hc▸ih.imp (Ev _) id
theorem Ax{aa:β->V}{an:List<|Nat×β}(nd:(an.map Fe).Nodup){e:Nat×β}(h:e∈an):dget (a' aa an) (.int (e.1:Nat))=j' (aa e.2):=by induction an with|nil=>exact(Ez h).elim|cons w an ih=>
  obtain⟨k,x⟩:=w;show(if V.int (k:Nat)=V.int (e.1:Nat)then j' (aa x)else dget (a' aa an)<|.int (e.1:Nat))=_;refine aN (FH.mp nd) λj n2=>?_;rcases EG.mp h with rfl|h;.rw[aF rfl]
  .refine(aC<|iM λe'=>j<|by have:=Fx (f:=Fe) h;rw[<-show k=e.1 from e']at this;exact this).trans ?_;exact ih n2 h
end
structure KAna{β:Type}(D:Dom β)(enc:β->V)(c:Nat)(fs:List<|Nat×V):Prop where
 cm:D.Law
 inj:∀{a b},D.ok a->D.ok b->enc a=enc b->a=b
 top:enc D.top=.none
 pure:∀{a},D.ok a->bs (enc a)ah:enc D.ah=.str [99,108,97,115,104]nf:c7 fs 33=.none/\c7 fs 28=.none
 fx:∃f,tab.ai c 33=some f/\∀d a dx H Q s xs,H a=some (.inst c dx fs)->xs.length=s.ar->(∀x∈xs,D.ok x)->Q (enc<|D.F s xs) H->CN (d+4) f [.ref a,.str<|a7 s,.lst<|xs.map enc] H Q
 jn:∃f,tab.ai c 28=some f/\∀d a dx H Q x y,H a=some (.inst c dx fs)->D.ok x->D.ok y->Q (enc<|D.meet x y) H->CN (d+4) f [.ref a,enc x,enc y] H Q
section
variable{T:Tm->Tm->Prop}
structure KV(D:Dom β)(S:St)(T:Tm->Tm->Prop)(Z:List<|Nat×β):Prop where
 nd:(Z.map Prod.fst).Nodup
 lt:∀e∈Z,e.1<S.n
 ok:∀e∈Z,D.ok e.2
 up:∀Y,PostFix D S.B T Y->∀e∈Z,∀t,S.B[e.1]?=some t->D.le (Y t) e.2
structure Kp(D:Dom β)(enc:β->V)(cA:Nat)(fA:List<|Nat×V)(adr:Ad)(O:RH)(Z:List<|Nat×β):Prop where k:∃dx,O 15=some (.inst 2 dx [(22,.ref<|adr 0),(23,.ref<|adr 16),(5,.ref<|adr 17),(24,.ref<|adr 18)])a:∃dx,O 16=some (.inst cA dx fA)v:O 17=some (.dict<|a' enc Z)
section
variable{c:Nat}
theorem KV.bt(af:Q.Law)(Kk:KV Q S T Z)(c:Nat):Q.ok<|aS Q Z c:=by
 refine my (Q:=Q) (an:=Z) (c:=c).elim (λh=>?_) λh=>?_;.exact Kk.ok _ h
 .rw[h];exact af.c9
theorem KV.d4(af:Q.Law)(Kk:KV Q S T Z)(I:Inv S T)(i:PostFix Q S.B T az)(hm:S.B[y]?=j' t)(hc:S.rt y=S.rt c)(aO:c<S.n):Q.le (az t)<|aS Q Z c:=by
 refine my (Q:=Q) (an:=Z) (c:=c).elim (λh=>?_) λh=>?_;.have hu:S.B[c]?=j' (S.B.getD c<|.lf 0):=jC aO;have:=Kk.up az i _ h _ hu;rw[i.R t _ λR n=>I.snd R n y c t _ hm hu hc];exact this
 .exact h▸af.le_top (i.ok t)
theorem KV.len(Kk:KV Q S T Z):Z.length<=S.n:=by
 have:=iI Kk.nd λy hm=>by refine aA (EO.mp hm) λe he s=>?_;clear hm;subst s;exact Kk.lt e he
 rwa[Ex]at this
set_option tactic.hygienic true in
theorem KV.put(Kk:KV Q S T Z)(hc:c<S.n)(hy:Q.ok u)(hu:∀az,PostFix Q S.B T az->∀t,S.B[c]?=j' t->Q.le (az t) u):KV Q S T (cJ Z c u)where
 nd:=by
  rw[k3];split;.exact Kk.nd
  .next h=>exact Gd.mpr ⟨Kk.nd,FW _ _,λd ha p hb e=>h<|by rw[ta.mp hb]at e;exact e▸ha⟩
 lt e he:=(iO he).elim (λh=>h▸hc)<|Kk.lt e
 ok e he:=(iO he).elim (λh=>h▸hy)<|Kk.ok e
 up az i e he t ht:=by
  refine(iO he).elim (λh=>?_) λh=>?_;.rw[h]at ht⊢;exact hu az i t ht
  .exact Kk.up az i e h t ht
theorem KV.nil:KV Q S T []:=⟨Hu,λd h=>(Ez h).elim,λd h=>(Ez h).elim,λd d d h=>(Ez h).elim⟩
theorem k6(a:cU H ov=j' f)(ho:∀P,P ov H->am tab ab D m H P)(hi:m i=j' kv)(X:bD f kv)(q:C ((dget f kv).getD .none) H):am tab ab (.dget D<|.v i) m H C:=ho _ ⟨⟨f,a⟩,ac hi<|by show av (cU H ov) _;exact a▸⟨X,q⟩⟩
theorem Kp.frame(Kk:Kp Q aa ar ay Y al Z)(h:∀o,o=15\/o=16\/o=17->O' o=al o):Kp Q aa ar ay Y O' Z:=⟨h 15 dd▸Kk.k,h 16 dd▸Kk.a,(h 17 dd).trans Kk.v⟩
theorem HS.frame(h:HS Y al S)(ha:∀o,HR o->ae o=Y o)(hO:∀o,HR o->O' o=al o):HS ae O' S:=by
 have d:∀o,o<=14\/30<=o->ae o=Y o:=ha;have D:∀o,o<=14\/30<=o->O' o=al o:=hO;refine⟨h.wf,⟨h.bk.fm,h.bk.cl,h.bk.bq,D 1 dd▸d 3 dd▸d 4 dd▸d 5 dd▸d 6 dd▸h.bk.b,D 3 dd▸h.bk.nodes,D 4 dd▸h.bk.ay⟩,⟨h.un.P,h.un.bq,D 2 dd▸d 7 dd▸d 8 dd▸d 9 dd▸h.un.u,D 7 dd▸h.un.a⟩,D 0 dd▸d 1 dd▸d 2 dd▸d 10 dd▸d 11 dd▸d 12 dd▸d 13 dd▸d 14 dd▸h.h,?_,λi m hl=>?_,D 12 dd▸h.known,?_,D 14 dd▸h.wait,?_,h.c⟩
 .rw[D 8 dd];have e:c1 ae S.n=c1 Y S.n:=FJ λi G=>by rw[d (30+2*i)<|by exact aB 0x1ca3980127c9f268e4b980127c9 rfl]
  exact e▸h.ak
 .rw[D _<|by exact aB 0x1ca3980127c9f268e4b980127c9 rfl];exact h.ew i m hl
 .refine b5 h.above λN J L b h4=>ee N ((D 13 dd).trans J) L b λo m O hl=>?_;refine aA (h4 o m O hl) λv h5 h6=>bm v h5<|h6.imp id λh=>?_;rw[d _<|by exact aB 0x1ca3980127e9f268e4b980127e9 rfl,D _<|by exact aB 0x1ca3980127e9f268e4b980127e9 rfl];exact h
 .refine dJ h.cp λe w y s z2 z3 h7=>aA s λz x1 x2=>aA z2 λys y1 y2=>aA z3 λK s z2=>h2 e w y ⟨z,(D 10 dd).trans x1,x2⟩ ⟨ys,(D 11 dd).trans y1,y2⟩ ⟨K,(D 9 dd).trans s,z2⟩ h7
theorem Ay(N:KAna Q aa ar ay)(R:Rp Y al H)(h:HS Y al S)(Kk:Kp Q aa ar ay Y al Z)(V:KV Q S T Z)(hc:c<S.n)(O:S.rt c=c)(q:∀u,Q.ok u->Q.le u (aS Q Z c)->(∀y t,S.B[y]?=j' t->S.rt y=c->Q.le u (Q.F t.sh<|((a2 S.B t).map S.rt).map<|aS Q Z))->(∀M,Q.ok M->Q.le M (aS Q Z c)->(∀y t,S.B[y]?=j' t->S.rt y=c->Q.le M (Q.F t.sh<|((a2 S.B t).map S.rt).map<|aS Q Z))->Q.le M u)->C (aa u) H):CN (G+5) 11 [.ref<|Y 15,.int (c:Nat)] H C:=by
 refine ax Kk.k λdx X=>ax Kk.a λbg ha=>ax h.h λa9 hh=>aA N.fx λz f fx=>aA N.jn λf2 J jn=>?_;have gk:=R.get X;have ga:=R.get ha;have l:=R.get Kk.v;have w:=V.bt N.cm;refine a6 (fn:=qb) rfl rfl<|bG<|k6 (gE l) (λP j=>ba rfl gk rfl j) rfl (cC (ec aa Z) _) ?_;rw[k2 N.top];refine e4<|ce<|dO rfl gk rfl (R.get hh) rfl rfl<|ap<|ac rfl<|aH<|zH R h hc λys hy hl=>?_;rw[O]at hy;have ab:∀u∈ys,∃y t,S.B[y]?=j' t/\S.rt y=c/\u=bv S t:=λu h=>by refine a4 ((hy u).mp h) λy p L s=>aA s λt b h4=>dZ y t b L h4
 have an:ys=ys.map id:=(Ke ys).symm;refine⟨a0<|ED (Fa ‹_›) dd,?_⟩;rw[an];refine e5 id (λas m H'=>H'=H/\m 3=j' (.ref<|Y 15)/\∃u,m 17=j' (aa u)/\Q.ok u/\(∀v∈as,v∈ys)/\Q.le u (aS Q Z c)/\(∀y t,S.B[y]?=j' t->S.rt y=c->bv S t∈as\/Q.le u (Q.F t.sh<|((a2 S.B t).map S.rt).map<|aS Q Z))/\∀M,Q.ok M->Q.le M (aS Q Z c)->(∀y t,S.B[y]?=j' t->S.rt y=c->Q.le M (Q.F t.sh<|((a2 S.B t).map S.rt).map<|aS Q Z))->Q.le M u) ⟨rfl,rfl,aS Q Z c,rfl,w c,λp h=>h,N.cm.refl _,λy t hm ht=>.inl<|(hy _).mpr ⟨y,(EN.mp hm).1,ht,t,hm,rfl⟩,λM p hz p=>hz⟩ ?_ ?_
 .intro v as m H' s K' k;refine aZ s λz2 b z3=>hZ z3 λu a aC has a1 yF yG=>?_;clear s;clear R q;replace z2:=z2.symm;subst z2;refine cM (ab v<|has v Eu) λy t hm D s=>?_;clear z3;replace s:=s.symm;subst s;have ht:=E0 hm;have kl:((a2 S.B t).map S.rt).length<=2:=by rw[Ex,a2,Ex];exact gm t
  have s3:∀v,(m.set 29 v) 3=j' (.ref<|Y 15):=λv=>b;refine bG<|c4<|ce<|fE<|ac rfl<|fZ (by rw[bV];exact ER ‹_› dd) ⟨a0<|by rw[bV];exact ED ‹_› dd,fX (λ(k:Nat)=>Mine.Internal.V.int k) (λ(k:Nat)=>aa<|aS Q Z k) (λk am kY q=>?_) ?_⟩;.refine k6 (gE l) (λP j=>ba (s3<|bv S t) gk rfl j) rfl (cC (ec aa Z) _) ?_;rw[k2 N.top];exact q
  have e:([]++((a2 S.B t).map S.rt).map λ(k:Nat)=>aa<|aS Q Z k)=(((a2 S.B t).map S.rt).map<|aS Q Z).map aa:=by rw[Fb (g:=aa)];rfl
  rw[e];have aD:∀x∈((a2 S.B t).map S.rt).map<|aS Q Z,Q.ok x:=λx E=>by refine aA (EO.mp E) λi p s=>?_;clear E;replace s:=s.symm;subst s;exact w i
  have aI:(((a2 S.B t).map S.rt).map<|aS Q Z).length=t.sh.ar:=by rw[Ex,Ex,a2,Ex];exact mj t
  have n:∀v A,((m.set 29 v).set 31 A) 3=j' (.ref<|Y 15):=λv A=>s3 v;have o:=N.cm.gg aI aD;refine bG<|dO (n _ _) gk rfl ga N.nf.2 J<|ap<|ac a<|ap<|dO (n _ _) gk rfl ga N.nf.1 f<|ap<|aX<|ac rfl<|aG ?_;show av (d2 _ (0:Nat)) _;rw[g' rfl dd,c6];refine ap<|ac rfl<|aH<|fx G _ _ _ _ t.sh _ ga aI aD<|aH<|jn G _ _ _ _ u _ ga aC o<|b6<|k _ _ ?_;refine⟨rfl,(aL.af _ _ dd).trans<|n _ _,_,aL.ao _ _ _,N.cm.meet_ok aC o,λv hv=>has v<|Ev _ hv,N.cm.trans (N.cm.dk aC o) a1,λm' t' aj I=>?_,λM r hz d=>N.cm.le_meet aC o r (yG M r hz d)<|d y t hm D⟩;refine(yF m' t' aj I).elim (λh=>?_) λh=>?_
  .refine(EG.mp h).elim (λh=>?_) λh=>?_;.refine aN (oA h) λe1 e2=>?_;rw[e1,e2];exact .inr<|N.cm.ef aC o
   .exact .inl h
  .exact .inr<|N.cm.trans (N.cm.dk aC o) h
 .intro m H' s;refine aZ s λz2 b z3=>hZ z3 λu a aC p a1 yF yG=>?_;clear s;clear R gk ga l;replace z2:=z2.symm;subst z2;exact aU<|ac a<|q u aC a1 (λy t hm ht=>(yF y t hm ht).resolve_left λh=>(Ez h).elim) yG
end
end
section
variable{T:Tm->Tm->Prop}
section
variable{al O':RH}{H:Hp}{C:V->Hp->Prop}{S:St}{Z:List<|Nat×β}{c:Nat}
theorem iP:(al.upd o D).upd o o'=al.upd o o':=by
 funext q;by_cases h:q=o;.rw[h,RH.ae,RH.ae]
 .rw[RH.aa h,RH.aa h,RH.aa h]
theorem Az(N:KAna Q aa ar ay)(R:Rp Y al H)(h:HS Y al S)(I:Inv S T)(Kk:Kp Q aa ar ay Y al Z)(V:KV Q S T Z)(hd:al 21=kf)(q:∀ae O' H' Z',Rp ae O' H'->Kp Q aa ar ay ae O' Z'->KV Q S T Z'->(∀e∈Z',S.rt e.1=e.1)->(∀o,o≠17/\o≠21->ae o=Y o)->(∀o,o≠15/\o≠17/\o≠21->O' o=al o)->O' 21=kf->C .none H'):CN (G+5) 10 [.ref<|Y 15] H C:=by
 refine ax Kk.k λdx X=>ax Kk.a λbg ha=>ax h.h λa9 hh=>aA N.jn λf2 J jn=>a6 (fn:=qa) rfl rfl<|bG<|show am tab _ .bf _ H _ fromλd af=>?_;have R1:=R.new af hd<|.dict<|a' aa ([]:List<|Nat×β);have l:∀o,o≠21->(Y.upd 21 d) o=Y o:=λo O=>Ad.aa O;have a4:(Y.upd 21 d) 21=d:=Ad.ae;have M:∀D o,o≠21->(al.upd 21 D) o=al o:=λD o O=>RH.aa O;show aV tab _ _ _ (H.set d<|.dict<|a' aa ([]:List<|Nat×β)) _;generalize H.set d (.dict<|a' aa ([]:List<|Nat×β))=aq at R1⊢;generalize Y.upd 21 d=f at R1 l a4;rw[<-l 15 dd,<-a4];have hs:∀D,HS f (al.upd 21 D) S:=λD=>h.frame (λo O=>l o λe=>by have:o<=14\/30<=o:=O;exact aB 0xef75ca03c9a3920b5520 rfl e this) λo O=>M D o λe=>by have:o<=14\/30<=o:=O;exact aB 0xef75ca03c9a3920b5520 rfl e this
 have bq:=h.bq;have av:=V.len;have w:∀{D H},Rp f (al.upd 21 D) H->H (f 15)=j' (.inst 2 dx [(22,.ref<|Y 0),(23,.ref<|Y 16),(5,.ref<|Y 17),(24,.ref<|Y 18)]):=λ{D H}R=>R.get<|(M _ _ dd).trans X;have y:∀{D H},Rp f (al.upd 21 D) H->H (Y 17)=j' (.dict<|a' aa Z):=λ{D H}R=>l 17 dd▸R.get ((M _ _ dd).trans Kk.v);have an:∀{D H},Rp f (al.upd 21 D) H->H (Y 16)=j' (.inst ar bg ay):=λ{D H}R=>l 16 dd▸R.get ((M _ _ dd).trans ha);have g0:∀{D H},Rp f (al.upd 21 D) H->H (Y 0)=j' (.inst 5 a9 [(53,.ref<|Y 1),(54,.ref<|Y 2),(55,.ref<|Y 10),(56,.ref<|Y 11),(57,.ref<|Y 12),(49,.ref<|Y 13),(37,.ref<|Y 14)]):=λ{D H}R=>l 0 dd▸R.get ((M _ _ dd).trans hh);refine e4<|ce<|jy<|ba rfl (w R1) rfl<|kF (ns:=Z.map Fe) ?_ (by rw[Ex];exact ER ‹_› ‹_›) λms mp p=>⟨a0<|by rw[bV,mp.length_eq,Ex];exact aE 0x77b4fa141a003510140 rfl bq av,e5 (λ(k:Nat)=>Mine.Internal.V.int k) (λcs m H'=>∃F,Rp f (al.upd 21<|.dict<|a' aa F) H'/\KV Q S T F/\(∀e∈F,S.rt e.1=e.1)/\m 3=j' (.ref<|f 15)/\m 17=j' (.ref<|f 21)/\∀c∈cs,c∈Z.map Fe) ⟨[],R1,KV.nil,λp h=>(Ez h).elim,rfl,rfl,λc hc=>mp.mem_iff.mp hc⟩ ?_ ?_⟩;.rw[show bP aq (.ref<|Y 17)=kf by show(match aq (Y 17)with|some<|.list z=>j' z|_=>kf)=_;rw[y R1],gE<|y R1];show j' ((a' aa Z).map _)=j' (aM<|Z.map Fe);dsimp only[a',aM];rw[Fb,Fb];rfl
 .intro c cs m H' s K' k;refine hZ s λF K KF E b a aK=>?_;refine aA (EO.mp<|aK c Eu) λs he z2=>?_;rcases s with⟨c',x⟩;clear s;subst z2;have aO:=V.lt _ he;have ab:=V.ok _ he;have L:S.rt c'<S.n:=dW aO;have s3:∀v,(m.set 25 v) 3=j' (.ref<|f 15):=λv=>b;refine bG<|dO (s3 _) (w K) rfl (g0 K) rfl rfl<|ap<|ac rfl<|aH ?_;show CN (G+4) 32 [.ref<|Y 0,.int (c':Nat)] H' _;rw[<-l 0 dd];refine iG (G:=G+2) K (hs _) aO ?_;have ad:∀v A,((m.set 25 v).set 26 A) 3=j' (.ref<|f 15):=λv A=>s3 v;have aj:∀v A,((m.set 25 v).set 26 A) 17=j' (.ref<|f 21):=λv A=>a;have as:=K.get RH.ae;have xF:=KF.bt N.cm<|S.rt c';refine b4<|dO (ad _ _) (w K) rfl (an K) N.nf.2 J<|ap<|k6 (gE as) (λP j=>ac (aj _ _) j) rfl (cC (ec aa F) _) ?_;rw[k2 N.top];refine ap<|aX<|ba (ad _ _) (w K) rfl<|ac rfl<|gk (y K) (cC (ec aa Z) _) (Ax V.nd he)<|aH<|jn G _ _ _ _ _ x (an K) xF ab<|gQ<|ac (aj _ _)<|ac rfl<|hN as (cC (ec aa F) _) (a0 ?_)<|b6<|k _ _ ?_;.have:=KF.len;unfold a';rw[Ex];exact aE 0x77b4fa141a003510140 rfl bq this
  .have R2:=K.set RH.ae<|.dict<|bC (a' aa F) (.int (S.rt c':Nat))<|aa<|Q.meet (aS Q F<|S.rt c') x;rw[iN,iP]at R2;refine u8 (cJ F (S.rt c')<|Q.meet (aS Q F<|S.rt c') x) ?_ (KF.put L (N.cm.meet_ok xF ab) λaz i t ht=>N.cm.le_meet xF ab (i.ok t) (KF.d4 N.cm I i ht rfl L) ?_) (λe ao=>?_) (ad _ _) (aj _ _) λc hc=>aK c<|Ev _ hc;.rw[iN];exact R2
   .have hb:=jC (S:=S) aO;rw[i.R t _ λR n=>I.snd R n _ _ _ _ ht hb<|dV h.un.P c'];exact V.up az i _ he _ hb
   .refine(iO ao).elim (λh'=>?_) λh'=>?_;.exact h'▸dV h.un.P c'
    .exact E e h'
 .intro m H' s;refine hZ s λF K KF E b a p=>?_;refine b4<|ac a<|gR b (w K) (show 4<=20 by decide)<|b6 ?_;have a2:∀o,o≠15/\o≠17/\o≠21->((((al.upd 21<|.dict<|a' aa F).upd 15<|.inst 2 dx [(22,.ref<|Y 0),(23,.ref<|Y 16),(5,.ref<|f 21),(24,.ref<|Y 18)]).drop 21).upd 17<|.dict<|a' aa F) o=al o:=λo O=>(RH.aa<|aB 0x77d68a41bdfad5483d68a41eb3d20 rfl O).trans<|(RH.bg<|aB 0x77d6aa41bdfad5483d68a41eb3d20 rfl O).trans<|(RH.aa<|aB 0x77d67a41bdfad5483d68a41eb3d20 rfl O).trans<|RH.aa<|aB 0x77d6aa41bdfad5483d68a41eb3d20 rfl O;have u:∀o,o≠17/\o≠21->(f.upd 17<|f 21) o=Y o:=λo O=>(Ad.aa<|aB 0x1df5a2906fd6aa41eb4520 rfl O).trans<|l o<|aB 0x1df5aa906fd6aa41eb4520 rfl O;refine q _ _ _ F ((K.set (o:=15) ((M _ _ dd).trans X)<|.inst 2 dx [(22,.ref<|Y 0),(23,.ref<|Y 16),(5,.ref<|f 21),(24,.ref<|Y 18)]).move (o:=17) (r:=21) (D:=.dict<|a' aa F)<|(RH.aa dd).trans RH.ae) ⟨⟨dx,?_⟩,⟨bg,?_⟩,RH.ae⟩ KF E u a2 ?_;.rw[RH.aa dd,RH.bg dd,RH.ae,u 0 dd,u 16 dd,u 18 dd,Ad.ae]
  .rw[a2 _ dd];exact ha
  .rw[RH.aa dd,RH.drop_eq]
theorem AA(N:KAna Q aa ar ay)(R:Rp Y al H)(h:HS Y al S)(Kk:Kp Q aa ar ay Y al Z)(V:KV Q S T Z)(q:∀cs,cs.Pairwise (·<·)->(∀c,c∈cs↔c<S.n/\S.rt c=c/\aS Q Z c=Q.ah)->C (.lst<|aM cs) H):CN (G+3) 13 [.ref<|Y 15] H C:=by
 refine ax Kk.k λdx X=>ax h.h λa9 hh=>?_;have gk:=R.get X;have w:=V.bt N.cm;have b3:∀c,Decidable<|aS Q Z c=Q.ah:=λc=>F_ _;have fl:=Kx (λd=>decide<|S.rt d=d)<|E3 S.n;rw[Fo]at fl;refine a6 (fn:=qd) rfl rfl<|aU<|c4<|ce<|dO rfl gk rfl (R.get hh) rfl rfl<|aH<|sF R h ⟨a0<|by rw[bV];exact aE 0x77b4fa141a003510140 rfl h.bq fl,kK (λ(k:Nat)=>Mine.Internal.V.int k) (λc=>@decide _<|b3 c) (λc hc k q=>?_) ?_⟩
 .refine aW<|k6 (gE<|R.get Kk.v) (λP j=>ba rfl gk rfl j) rfl (cC (ec aa Z) _) ?_;rw[k2 N.top];by_cases e:aS Q Z c=Q.ah;.rw[@decide_eq_true _ (b3 c) e]at q;exact aG<|cH (N.pure<|w c) (e▸N.ah▸rfl) q
  .rw[@decide_eq_false _ (b3 c) e]at q;exact aG<|c3 (N.pure<|w c) (N.ah▸N.pure N.cm.dq) (λe'=>e<|N.inj (w c) N.cm.dq<|e'▸N.ah▸rfl) q
 .refine q _ ((M4.filter _).filter _) λc=>?_;.rw[Hv,Hv,F3,decide_eq_true_iff,@decide_eq_true_iff _<|b3 c];exact and_assoc
theorem AB(R:Rp Y al H)(l:al 15=j' (.inst 2 dx []))(a:al 17=kf)(f:al 18=kf)(aJ:al 16=j' (.inst ar bg ay))(q:∀ae O' H',Rp ae O' H'->Kp Q aa ar ay ae O' []->(∀o,o≠17/\o≠18->ae o=Y o)->(∀o,o≠15/\o≠17/\o≠18->O' o=al o)->C .none H'):CN (G+1) 9 [.ref<|Y 15,.ref<|Y 0,.ref<|Y 16] H C:=by
 have R1:=R.set l<|.inst 2 dx [(22,.ref<|Y 0)];have R2:=R1.set RH.ae<|.inst 2 dx [(22,.ref<|Y 0),(23,.ref<|Y 16)];refine a6 (fn:=p') rfl rfl<|b4<|ac rfl<|gR rfl (R.get l) (show 0<=20 by decide) ?_;refine b4<|ac rfl<|gR rfl (R1.get RH.ae) (show 1<=20 by decide) ?_;rw[iP]at R2;refine kZ R2 (r:=15) (o:=17) rfl RH.ae a dd (show 2<=20 by decide) λw H3 R3=>kZ R3 (r:=15) (o:=18) (by rfl) RH.ae f dd (show 3<=20 by decide) λj H4 z=>b6<|q _ _ H4 z ⟨⟨dx,?_⟩,⟨bg,aJ⟩,?_⟩ (λo O=>?_) λo O=>?_;.rfl
 .rfl
 .rw[Ad.aa<|by exact aB 0x1df5a4906fd69241eb4520 rfl O,Ad.aa<|by exact aB 0x1df5a2906fd69241eb4520 rfl O]
 .rw[RH.aa<|by exact aB 0x77d67a41bdfad2483d68a41eb3d20 rfl O,RH.aa<|by exact aB 0x77d69241bdfad2483d68a41eb3d20 rfl O,RH.aa<|by exact aB 0x77d67a41bdfad2483d68a41eb3d20 rfl O,RH.aa<|by exact aB 0x77d68a41bdfad2483d68a41eb3d20 rfl O,RH.aa<|by exact aB 0x77d67a41bdfad2483d68a41eb3d20 rfl O]
end
end
section
variable{T:Tm->Tm->Prop}
section
variable{Z:List<|Nat×β}{c:Nat}
noncomputable def wD(ws:List Nat):List<|V×V:=ws.map λ(c:Nat)=>(V.int c,V.bool Do)
theorem mz(ws:List Nat):d'<|wD ws:=λe he=>by refine aA (EO.mp he) λx d s=>?_;clear he;subst s;exact⟨_,rfl⟩
theorem oT(ws:List Nat)(c:Nat):dget (wD ws) (.int (c:Nat))=if c∈ws then j' (.bool Do)else Option.none:=by induction ws with|nil=>rfl|cons k ws ih=>
  show(if V.int (k:Nat)=V.int (c:Nat)then j' (V.bool Do)else dget (wD ws)<|.int (c:Nat))=_;by_cases h:k=c;.rw[aF<|h▸rfl,aF<|h▸Eu]
  .rw[aC<|iM h,ih];by_cases L:c∈ws;.rw[aF L,aF<|Ev _ L]
   .rw[aC L,aC λx=>(EG.mp x).elim (λe=>h e.symm) L]
theorem td(h:c∉ws):bC (wD ws) (.int (c:Nat)) (.bool Do)=wD (ws++[c]):=by rw[ji<|by rw[oT,aC h]];unfold wD;exact Gk▸rfl
theorem AC(ws:List Nat)(c:Nat):cc (wD ws) (.int (c:Nat))=wD (ws.erase c):=by induction ws with|nil=>rfl|cons k ws ih=>
  show(if V.int (k:Nat)=V.int (c:Nat)then wD ws else(V.int (k:Nat),V.bool Do)::cc (wD ws) (.int (c:Nat)))=_;by_cases h:k=c;.rw[aF<|h▸rfl,h,List.erase_cons_head]
  .rw[aC<|iM h,ih,List.erase_cons_tail<|by rw[beq_iff_eq];exact h];rfl
theorem oU(h:body x H λk A H'=>bD ao k/\ao.length<=aR/\ei body o (bC ao k A) H' Kk):ei body (x::o) ao H Kk:=h
theorem AD{m:aL}{ab:CW}:∀{cs ao},(ao++cs).Nodup->(ao++cs).length<=1000->Kk (wD<|ao++cs) H->ei (λx H kk=>bY tab ab (.v 25) x (m.bh (Tg.v 25).vars) H λl' H=>am tab ab (.v 25) l' H λkv H=>am tab ab (.k<|.bool Do) l' H λn H=>kk kv n H) (aM cs) (wD ao) H Kk:=by intro v1;induction v1 with|nil=>intro ao g g1 k;rw[FR]at k;exact k|cons c cs ih=>
  intro ao nd hl k;have a:c∉ao:=λh=>(Gd.mp nd).2.2 c h c Eu rfl;have e:ao++c::cs=ao++[c]++cs:=by rw[FS];rfl
  refine oU (x:=V.int (c:Nat))<|ac (ab:=ab) (i:=25) rfl ⟨cC (mz ao) _,a0 ?_,td a▸ih (e▸nd) (e▸hl) (e▸k)⟩;.unfold wD;rw[Ex];rw[EH]at hl;exact aE 0x1da7d0a053e853820 rfl hl
theorem oV{α:Type}{w g:α->Nat}{z:List α}(h:∀x∈z,w x<=g x){u:α}(hy:u∈z)(ad:w u<g u):(z.map w).sum<(z.map g).sum:=by
 have le:∀{ys:List α},(∀x∈ys,w x<=g x)->(ys.map w).sum<=(ys.map g).sum:=λ{ys}=>by induction ys with|nil=>exactλd=>EM _|cons u ys ih=>intro h;have:=h u Eu;have:=ih λx E=>h x<|Ev _ E;simp only[Gq,HD];exact cy 0x77b470c2e1028315020 rfl ‹_› this
 induction z with|nil=>exact(Ez hy).elim|cons x z ih=>
  simp only[Gq,HD];have J:∀x∈z,w x<=g x:=λM hz=>h M<|Ev _ hz;rcases EG.mp hy with rfl|hy;.have:=le J;exact cy 0x77b570c2e1028315420 rfl ad this
  .have:=ih J hy;exact cy 0x77b570c2e102a315020 rfl (h x Eu) this
def hQ(Q:Dom β)(l:Nat)(Z:List<|Nat×β):Nat:=((E3 l).map λc=>Q.rk<|aS Q Z c).sum
theorem AE(N:Q.Law)(V:KV Q S T Z):hQ Q S.n Z<=30*S.n:=by
 have:∀z:List Nat,(z.map λc=>Q.rk<|aS Q Z c).sum<=30*z.length:=λz=>by induction z with|nil=>exact EM _|cons c z ih=>have:=N.rk_le<|V.bt N c;dsimp only[Gq,HD,Fi];exact aT 0x77b4638290f92e00a9e48a8c0f920 rfl ih this
 have:=this<|E3 S.n;rwa[Fo]at this
theorem AF(N:Q.Law)(V:KV Q S T Z)(hc:c<S.n){u:β}(hy:Q.ok u)(aa:Q.le u<|aS Q Z c)(K:u≠aS Q Z c):hQ Q S.n (cJ Z c u)<hQ Q S.n Z:=by
 refine oV (λx p=>?_) (F3.mpr hc) ?_
 .rw[hk];by_cases e:c=x;.exact aF e▸e▸Fa (N.rk_lt hy (V.bt N c) aa K)
  .exact aC e▸EM _
 .rw[hk,aF rfl];exact N.rk_lt hy (V.bt N c) aa K
def mA(Q:Dom β)(S:St)(Z:List<|Nat×β)(c:Nat):Prop:=∀y t,S.B[y]?=j' t->S.rt y=c->Q.le (aS Q Z c) (Q.F t.sh<|((a2 S.B t).map S.rt).map<|aS Q Z)
structure Going(D:Dom β)(S:St)(T:Tm->Tm->Prop)(Z:List<|Nat×β)(row:List Nat)(spot:Nat)(ws:List Nat):Prop where
 kv:KV D S T Z
 iz:∀e∈Z,S.rt e.1=e.1
 sp:spot<=row.length
 nd:(row.drop spot).Nodup
 fk:ws.Nodup
 mem:∀c,c∈ws↔c∈row.drop spot
 cls:∀c∈row.drop spot,c<S.n/\S.rt c=c
 gr:∀c,c<S.n->S.rt c=c->c∉row.drop spot->mA D S Z c
 bnd:hQ D S.n Z*64+row.length<=200000
theorem AG(N:Q.Law)(h:HS Y al S)(I:Inv S T)(V:KV Q S T Z)(hc:c<S.n)(O:S.rt c=c)(hg:∀M,Q.ok M->Q.le M (aS Q Z c)->(∀y t,S.B[y]?=j' t->S.rt y=c->Q.le M (Q.F t.sh<|((a2 S.B t).map S.rt).map<|aS Q Z))->Q.le M u):∀az,PostFix Q S.B T az->∀t,S.B[c]?=j' t->Q.le (az t) u:=λaz i t ht=>by
 refine hg _ (i.ok t) (V.d4 N I i ht rfl hc) λy aj hm b=>?_;have hu:=E0 hm;rw[i.R t aj λR n=>I.snd R n c y t aj ht hm<|O.trans b.symm];have o:∀k∈aj.kids,k∈S.B:=h.bk.cl aj hu;refine N.trans (i.le aj hu)<|N.mono (by rw[Ex];exact mj aj) (λx E=>?_) (λx E=>?_) ?_;.refine aA (EO.mp E) λk d s=>?_;clear E;subst s;exact i.ok k
 .refine aA (EO.mp E) λk d s=>?_;clear E;subst s;exact V.bt N k
 .unfold a2;rw[Fb,Fb];have go:∀ks:List Tm,(∀k∈ks,k∈S.B)->db Q.le (ks.map az) (ks.map<|aS Q Z∘S.rt∘ix S.B):=λks=>by induction ks with|nil=>exactλd=>trivial|cons k ks ih=>intro X;refine⟨?_,ih λx E=>X x<|Ev _ E⟩;have a:=X k Eu;exact V.d4 N I i (eu a) (dV h.un.P _).symm<|dW<|fY a
  exact go aj.kids o
end
end
section
variable{T:Tm->Tm->Prop}
section
variable{Z:List<|Nat×β}{c:Nat}
structure KS(D:Dom β)(enc:β->V)(cA:Nat)(fA:List<|Nat×V)(adr:Ad)(O0 O:RH)(S:St)(Z:List<|Nat×β)(row ws:List Nat):Prop where
 hs:HS adr O S
 kp:Kp D enc cA fA adr O Z
 row:O 19=some (.list<|aM row)wait:O 20=some (.dict<|wD ws)fr:∀r,r≠17/\r≠19/\r≠20->O r=O0 r
theorem KS.upd{I:RH}{row ws:List Nat}(k:KS Q aa ar ay Y I al S Z row ws){o:Nat}(O:o=17\/o=19\/o=20)(D:c2){Z':List<|Nat×β}{r af:List Nat}(a:(al.upd o D) 17=j' (.dict<|a' aa Z'))(bm:(al.upd o D) 19=j' (.list<|aM r))(bn:(al.upd o D) 20=j' (.dict<|wD af)):KS Q aa ar ay Y I (al.upd o D) S Z' r af where
 hs:=k.hs.frame (λp p=>rfl) λq hq=>RH.aa λe=>by have:q<=14\/30<=q:=hq;exact aE 0x3bdeeb940f934724360079cb5120b4d20b4520 rfl O e this
 kp:=⟨by rw[RH.aa<|by exact aB 0xefac07a79cb5120b4d20b4520 rfl O];exact k.kp.k,by rw[RH.aa<|by exact aB 0xefac08279cb5120b4d20b4520 rfl O];exact k.kp.a,a⟩
 row:=bm
 wait:=bn
 fr q hq:=(RH.aa<|aE 0x1defac00ef7eb5121f5a690fad14879cb5120b4d20b4520 rfl O hq).trans<|k.fr q hq
set_option tactic.hygienic true in
theorem Going.next(N:Q.Law)(I:Inv S T)(ab:Going Q S T Z row a ws)(bJ:a<row.length)(hc:row.drop a=c::row.drop (a+1))(hy:Q.ok u)(aa:Q.le u<|aS Q Z c)(K:u≠aS Q Z c)(d:∀y t,S.B[y]?=j' t->S.rt y=c->Q.le u (Q.F t.sh<|((a2 S.B t).map S.rt).map<|aS Q Z))(n:∀az,PostFix Q S.B T az->∀t,S.B[c]?=j' t->Q.le (az t) u)(b:∃aD,r=row++aD)(hl:r.length<=row.length+42)(nd:(r.drop<|a+1).Nodup)(l:af.Nodup)(mem:∀c,c∈af↔c∈r.drop (a+1))(cls:∀c∈r.drop<|a+1,c<S.n/\S.rt c=c)(j:S.U[c]?=j' m)(hu:∀aj∈m,S.rt aj∈r.drop (a+1)):Going Q S T (cJ Z c u) r (a+1) af/\hQ Q S.n (cJ Z c u)*64+(r.length-(a+1))<hQ Q S.n Z*64+(row.length-a):=by
 refine aN (ab.cls c<|by rw[hc];exact Eu) λaO a_=>?_;have q:=AF N ab.kv aO hy aa K;refine⟨⟨ab.kv.put aO hy n,λe he=>?_,?_,nd,l,mem,cls,λx E bp aU y t hm f=>?_,cy 0x1def6861a8045b80d10142a186a0116e0b44050ea3151c152820 rfl hl q ab.bnd⟩,gD 0x3bdab9e40b44050dcf705240344050aa3151c152820 rfl hl q⟩
 .rcases iO he with h|h;.rw[h];exact a_
  .exact ab.iz e h
 .refine ax b λaD s=>?_;clear b;clear hl nd mem cls hu;subst s;rw[EH];exact Ew ‹_›<|EB _ _
 .have sub:∀M,M∈row.drop (a+1)->M∈r.drop (a+1):=λM hz=>by refine ax b λaD s=>?_;clear b;clear hl nd mem cls hu aU;subst s;rw[K6 ‹_›];exact FK _ hz
  have o:∀k∈a2 S.B t,S.rt k≠c:=λk X e=>by have:=hu y (I.d8 y t hm k X m<|by rw[e];exact j);rw[f]at this;exact aU this
  have same:((a2 S.B t).map S.rt).map (aS Q<|cJ Z c u)=((a2 S.B t).map S.rt).map (aS Q Z):=by refine FJ λk X=>aA (EO.mp X) λi hi s=>?_;clear X;subst s;rw[hk,aC λe=>o i hi e.symm]
  rw[same,hk];by_cases e:c=x;.rw[aF e];exact d y t hm<|by rw[e];exact f
  .rw[aC e];refine ab.gr x E bp (λh=>?_) y t hm f;rw[hc]at h;rcases EG.mp h with h|h;.exact e h.symm
   .exact aU<|sub x h
theorem AH(O:H o=j' (.dict<|wD ws))(q:c∈ws->P EF)(q2:c∉ws->P Do):bK H .notIn (.int (c:Nat)) (.ref o) P:=by
 show av (H o) _;rw[O];refine⟨cC (mz ws) _,?_⟩;rw[oT];by_cases h:c∈ws;.exact aF h▸q h
 .exact aC h▸q2 h
def UG(Y:Ad)(a:Nat)(z o1 J o3:Option V):Prop:=z=j' (.ref<|Y 15)/\o1=j' (.ref<|Y 19)/\J=j' (.ref<|Y 20)/\o3=j' (.int (a+1:Nat))
def UW(S:St)(ws z:List Nat):Prop:=z.Nodup/\ws.Nodup/\(∀c,c∈ws↔c∈z)/\∀c∈z,c<S.n/\S.rt c=c
def UI(Q:Dom β)(aa:β->V)(ar:Nat)(ay:List<|Nat×V)(Y:Ad)(I:RH)(S:St)(Z:List<|Nat×β)(i lu:List Nat)(a:Nat)(f:List Nat)(m:aL)(H':Hp):Prop:=∃r af O',Rp Y O' H'/\KS Q aa ar ay Y I O' S Z r af/\UG Y a (m 3) (m 35) (m 37) (m 38)/\(∃aD,r=i++aD)/\r.length+f.length<=i.length+lu.length/\UW S af (r.drop<|a+1)/\(∀aj∈f,aj∈lu)/\∀aj∈lu,aj∈f\/S.rt aj∈r.drop (a+1)
theorem AI(a5:∀aj∈lu,aj<S.n)(O:lu.length<=42)(hn:S.n<=21)(hb:i.length<=200000)(bJ:a+1<=i.length)(cont:∀r af O' H' l',Rp Y O' H'->KS Q aa ar ay Y I O' S Z r af->l' 3=j' (.ref<|Y 15)->l' 35=j' (.ref<|Y 19)->l' 37=j' (.ref<|Y 20)->l' 38=j' (.int (a+1:Nat))->(∃aD,r=i++aD)->r.length<=i.length+lu.length->(r.drop<|a+1).Nodup->af.Nodup->(∀c,c∈af↔c∈r.drop (a+1))->(∀c∈r.drop<|a+1,c<S.n/\S.rt c=c)->(∀aj∈lu,S.rt aj∈r.drop (a+1))->Kk .nx l' H'):∀{ws}{O'}{H'},Rp Y O' H'->KS Q aa ar ay Y I O' S Z i ws->l0 3=j' (.ref<|Y 15)->l0 35=j' (.ref<|Y 19)->l0 37=j' (.ref<|Y 20)->l0 38=j' (.int (a+1:Nat))->(i.drop<|a+1).Nodup->ws.Nodup->(∀c,c∈ws↔c∈i.drop (a+1))->(∀c∈i.drop<|a+1,c<S.n/\S.rt c=c)->fN (aV tab (CN<|G+5)<|.cons (.asg (.v 42)<|.ai (.attr (.v 3) 22) 27<|.cons (.v 40) .nil)<|.cons (.be (.cmp .notIn (.v 42)<|.v 37) (.cons (.asg (.sub (.v 37)<|.v 42)<|.k<|.bool Do)<|.cons (.ex<|.append (.v 35)<|.v 42) .nil) .nil) .nil) (bY tab (CN<|G+5)<|.v 40) (aM lu) l0 H' Kk:=by
 intro ws O' H' K ks b u n z nd l mem cls;refine e5 (λ(k:Nat)=>V.int k) (UI Q aa ar ay Y I S Z i lu a) ⟨i,ws,O',K,ks,⟨b,u,n,z⟩,⟨[],(FR _).symm⟩,EM _,⟨nd,l,mem,cls⟩,λw h=>h,λw h=>.inl h⟩ ?_ ?_
 .intro aj f m H' s K' k;refine hx s λr af O' K ks q z3 aw z2=>aZ z2 λC D az=>ax z3 λaD z4=>bM q λb u n z=>bM C λnd l mem cls=>?_;clear s z2 z3;subst z4;refine ax ks.kp.k λdx X=>ax ks.hs.h λa9 hh=>?_;have N:=a5 aj<|D aj Eu;have L:S.rt aj<S.n:=dW N;rw[Fi]at aw;have ad:(List.drop (a+1)<|i++aD).length<=S.n:=iI nd λy hm=>(cls y hm).1;have bb:af.length<=S.n:=iI l λy hm=>(cls y<|(mem y).mp hm).1;have wl:(wD af).length=af.length:=Ex _;refine bG<|dO b (K.get X) rfl (K.get hh) rfl rfl<|ap<|ac rfl<|aH<|iG (G:=G+3) K ks.hs N<|bA<|aW<|ac rfl<|ac n<|AH (K.get ks.wait) (λaI=>?_) λM=>?_
  .refine b6 (ab:=CN<|G+5)<|k _ _ ⟨i++aD,af,O',K,ks,q,⟨aD,rfl⟩,Fa ‹_›,C,λx E=>D x<|Ev _ E,λx E=>?_⟩
   .refine(az x E).elim (λh=>?_) λh=>?_
    .rcases EG.mp h with rfl|h;.exact .inr<|(mem _).mp aI
     .exact .inl h
    .exact .inr h
  .have R2:=K.set ks.wait<|.dict<|wD<|af++[S.rt aj];have A:=ks.upd (o:=20) dd (.dict<|wD<|af++[S.rt aj]) (r:=i++aD) (af:=af++[S.rt aj]) (Z':=Z) ks.kp.v ks.row RH.ae;have R3:=R2.set A.row<|.list<|aM<|i++aD++[S.rt aj];have R:(i++aD).length+f.length<=i.length+lu.length:=Fa ‹_›;refine b4<|aG<|gQ<|ac n<|ac rfl<|hN (K.get ks.wait) (cC (mz af) _) (a0<|aT 0x3bded3e850ac115001a5520 rfl hn bb wl) ?_;rw[td M];have J:=R2.get A.row;generalize H'.set (Y 20) (.dict<|wD<|af++[S.rt aj])=H2 at R2 R3 J⊢;have dr:(i++aD++[S.rt aj]).drop (a+1)=(i++aD).drop (a+1)++[S.rt aj]:=K6<|EH▸Ew ‹_› (EB _ _);refine co<|gn J (ac rfl<|gu J (by rw[bV];unfold aR;exact cy 0x3bded7d09008b151c00b9c148c5430d4022c340a940 rfl O hb aw)<|b6<|b6<|k _ _ ?_) λP j=>ac u j;rw[show aM (i++aD)++[V.int (S.rt aj:Nat)]=aM (i++aD++[S.rt aj])from(g_ (i++aD) [S.rt aj]).symm];have H:S.rt aj∉(i++aD).drop (a+1):=λh=>M<|(mem _).mpr h;refine⟨i++aD++[S.rt aj],af++[S.rt aj],_,R3,A.upd (o:=19) dd (.list<|aM<|i++aD++[S.rt aj]) (r:=i++aD++[S.rt aj]) (af:=af++[S.rt aj]) (Z':=Z) A.kp.v RH.ae A.wait,q,⟨aD++[S.rt aj],FS _ _ _⟩,EH.symm▸Fj.symm▸cy 0x1da3862705c14828e189ce0a420 rfl aw,⟨dr▸Gd.mpr ⟨nd,FW _ _,λd ha p hb e=>H<|by rw[ta.mp hb]at e;exact e▸ha⟩,Gd.mpr ⟨l,FW _ _,λd ha p hb e=>M<|by rw[ta.mp hb]at e;exact e▸ha⟩,λc=>?_,λc hc=>?_⟩,λx E=>D x<|Ev _ E,λx E=>?_⟩;.rw[dr,E1,E1,mem]
   .rw[dr]at hc;refine(E1.mp hc).elim (λh=>?_) λh=>?_;.exact cls c h
    .exact ta.mp h▸⟨L,dV ks.hs.un.P aj⟩
   .rw[dr];refine(az x E).elim (λh=>?_) λh=>?_
    .rcases EG.mp h with rfl|h;.exact .inr<|Fz _<|ta.mpr rfl
     .exact .inl h
    .exact .inr<|FK _ h
 .intro m H' s;refine hx s λr af O' K ks q hE aw z2=>aZ z2 λC w az=>bM q λb u n z=>bM C λnd l mem cls=>?_;exact cont r af O' H' m K ks b u n z hE aw nd l mem cls λaj hu=>(az aj hu).resolve_left λh=>(Ez h).elim
end
end
section
variable{β:Type}{Q:Dom β}{aa:β->V}{ar:Nat}{ay:List<|Nat×V}{T:Tm->Tm->Prop}
section
variable{G:Nat}{Y ae:Ad}{al O':RH}{H:Hp}{C:V->Hp->Prop}{S:St}{Z:List<|Nat×β}{c:Nat}
def AJ(H:Hp)(v:V)(C:V->Hp->Prop):Prop:=av (bT H v) λz=>z.length<=aR/\∀d,H d=kf->C (.ref d) (H.set d<|.list z)
theorem AK(k:am tab ab x m H λv H=>AJ H v C):am tab ab (.cj Do x) m H C:=k
theorem AL(h:H d=j' D):(H.del d).set d D=H:=by
 funext x;by_cases e:x=d;.rw[e,Hp.ao,h]
 .rw[Hp.af _ _ e];show(if x=d then kf else H x)=H x;rw[aC e]
theorem AM(hi:m i=j' (.ref d))(ha:H d=j' (.list<|aM cs))(nd:cs.Nodup)(hl:cs.length<=1000)(k:∀G,H G=kf->C (.ref G) (H.set G<|.dict<|wD cs)):am tab ab (.au (.v 25) (.k<|.bool Do) (.v 25) i) m H C:=by show av (m i) _;rw[hi];show av (H d) _;rw[ha];refine AD (ao:=[]) (cs:=cs) nd hl λG hd K=>?_;rw[AL ha];refine k G ?_;have:(if G=d then kf else H G)=.none:=hd;rwa[aC K]at this
theorem gS(q:Kk ((m.set i x).set a u) H):bY tab ab (.t<|.cons (.v i)<|.cons (.v a) .nil) (.tup [x,u]) m H Kk:=⟨rfl,rfl,q⟩
def KI(Q:Dom β)(aa:β->V)(ar:Nat)(ay:List<|Nat×V)(Y:Ad)(al:RH)(S:St)(T:Tm->Tm->Prop)(y:Nat)(m:aL)(H:Hp):Prop:=∃Z' row a ws,∃O',y=hQ Q S.n Z'*64+(row.length-a)/\Rp Y O' H/\KS Q aa ar ay Y al O' S Z' row ws/\Going Q S T Z' row a ws/\m 3=j' (.ref<|Y 15)/\m 35=j' (.ref<|Y 19)/\m 37=j' (.ref<|Y 20)/\m 38=j' (.int (a:Nat))
theorem KI.mk(R:Rp Y O' H)(k:KS Q aa ar ay Y al O' S Z' row ws)(ab:Going Q S T Z' row a ws)(b:m 3=j' (.ref<|Y 15))(u:m 35=j' (.ref<|Y 19))(n:m 37=j' (.ref<|Y 20))(z:m 38=j' (.int (a:Nat))):KI Q aa ar ay Y al S T (hQ Q S.n Z'*64+(row.length-a)) m H:=⟨Z',row,a,ws,O',rfl,R,k,ab,b,u,n,z⟩
set_option tactic.hygienic true in
theorem AN(N:KAna Q aa ar ay)(R:Rp Y al H)(h:HS Y al S)(I:Inv S T)(Kk:Kp Q aa ar ay Y al Z)(V:KV Q S T Z)(hn:S.n<=21)(bm:al 19=kf)(bn:al 20=kf)(bU:al 21=kf)(q:∀ae O' H' Z',Rp ae O' H'->HS ae O' S->Kp Q aa ar ay ae O' Z'->KV Q S T Z'->(∀c,c<S.n->S.rt c=c->mA Q S Z' c)->(∀o,o≠17/\o≠19/\o≠20/\o≠21->ae o=Y o)->(∀o,o≠15/\o≠17/\o≠19/\o≠20/\o≠21->O' o=al o)->O' 19=kf->O' 20=kf->O' 21=kf->C .none H'):CN (G+6) 12 [.ref<|Y 15] H C:=by
 refine ax Kk.k λdx X=>a6 (fn:=qc) rfl rfl<|co<|bE rfl (R.get X) rfl rfl<|aH<|Az N R h I Kk V bU λf n aq as R1 K1 V1 bW a4 bd d1=>?_;have bX:∀o,HR o->f o=Y o:=λo O=>a4 o (by have:o<=14\/30<=o:=O;exact aB 0x1ddfad5483d68a41ca03c9a3920 rfl this);have bY:∀o,HR o->n o=al o:=λo O=>bd o (by have:o<=14\/30<=o:=O;exact aB 0x777bf5aa907ad1483d67a41ca03c9a3920 rfl this);have J:=h.frame bX bY;rw[<-a4 15 dd];refine ax K1.k λa8 bK=>ax J.h λa9 bZ=>?_;have fl:=Kx (λd=>decide<|S.rt d=d)<|E3 S.n;rw[Fo]at fl;refine bG<|AK<|dO rfl (R1.get bK) rfl (R1.get bZ) rfl rfl<|aH<|sF R1 J ⟨a0<|by rw[bV];exact aE 0x3bda7d0a0d001a5520 rfl hn fl,λd ha=>?_⟩;have aK:∀c,c∈(E3 S.n).filter (λd=>decide<|S.rt d=d)↔c<S.n/\S.rt c=c:=λc=>by rw[Hv,F3,decide_eq_true_iff]
 have av:((E3 S.n).filter λd=>decide<|S.rt d=d).Nodup:=Ms.filter _;generalize(E3 S.n).filter λd=>decide<|S.rt d=d=cs at fl aK av ha⊢;have R2:=R1.new (o:=19) ha ((bd _ dd).trans bm)<|.list<|aM cs;have bh:∀o,o≠19->(f.upd 19 d) o=f o:=λo O=>Ad.aa O;have a3:(f.upd 19 d) 19=d:=Ad.ae;have bq:∀o,o≠19->(n.upd 19<|.list<|aM cs) o=n o:=λo O=>RH.aa O;have bs:(n.upd 19<|.list<|aM cs) 19=j' (.list<|aM cs):=RH.ae;show aV tab (CN<|G+5) _ _ (aq.set d<|.list<|aM cs) _;generalize aq.set d (.list<|aM cs)=H2 at R2⊢;generalize f.upd 19 d=an at R2 bh a3;generalize n.upd 19 (.list<|aM cs)=O2 at R2 bq bs;have bL:=R2.get bs;rw[a3]at bL;refine bG<|AM rfl bL av (aE 0x3bda7d0a0d001a5520 rfl hn fl) λp hb=>?_;have R3:=R2.new (o:=20) hb ((bq _ dd).trans<|(bd _ dd).trans bn)<|.dict<|wD cs;have bt:∀o,o≠20->(an.upd 20 p) o=an o:=λo O=>Ad.aa O;have bM:(an.upd 20 p) 20=p:=Ad.ae;have bu:∀o,o≠20->(O2.upd 20<|.dict<|wD cs) o=O2 o:=λo O=>RH.aa O;have bN:(O2.upd 20<|.dict<|wD cs) 20=j' (.dict<|wD cs):=RH.ae;generalize H2.set p (.dict<|wD cs)=H3 at R3⊢;generalize an.upd 20 p=aD at R3 bt bM;generalize O2.upd 20 (.dict<|wD cs)=O3 at R3 bu bN;have l:∀o,o≠19/\o≠20->aD o=f o:=λo O=>(bt _ O.2).trans<|bh _ O.1;have M:∀o,o≠19/\o≠20->O3 o=n o:=λo O=>(bu _ O.2).trans<|bq _ O.1;have ks:KS Q aa ar ay aD O3 O3 S as cs cs:=⟨J.frame (λo O=>l o<|by have:o<=14\/30<=o:=O;exact aB 0x1ddfad4483d69a41ca03c9a3920 rfl this) λo O=>M o<|by have:o<=14\/30<=o:=O;exact aB 0x1ddfad4483d69a41ca03c9a3920 rfl this,⟨⟨a8,M 15 dd▸l 0 dd▸l 16 dd▸l 17 dd▸l 18 dd▸bK⟩,M 16 dd▸K1.a,(M 17 dd).trans K1.v⟩,(bu _ dd).trans bs,bN,λw w=>rfl⟩;refine bG<|aG<|l_ (KI Q aa ar ay aD O3 S T) _ (.mk R3 ks ⟨V1,bW,E8 _,av,av,λw=>Pg,λc hc=>(aK c).mp hc,λc J L b=>aJ ((aK c).mpr ⟨J,L⟩) b,by exact aT 0x3bded0c35008b705a202854603c915001a5520 rfl hn fl<|AE N.cm V1⟩ ?_ ?_ ?_ rfl) ?_;.exact l 15 dd▸rfl
 .exact bt 19 dd▸a3▸rfl
 .rw[bM];rfl
 intro y m H' s W nx rt;refine g1 s λZ' row a ws z2=>u7 z2 λO' z3 K ks ab l3 bv b1 bw=>?_;clear s;clear z2;replace z3:=z3.symm;subst z3;refine ax ks.kp.k λbc am=>ax ks.hs.h λcf aP=>?_;have gk:=K.get am;have bP:=K.get ks.row;have hb:=ab.bnd;have bJ:=ab.sp;refine aW<|ac bw<|dt<|ac bv<|gl bP (by rw[bV];unfold aR;exact aE 0x769e84804586861a8045b82d10140 rfl hb)<|kR ?_;rw[bV];by_cases ad:a<row.length;.as_aux_lemma=>
   rw[dI<|by exact aE 0x1dc483205420 rfl ad];have D:row.drop a=row[a]::row.drop (a+1):=GH ad;have aQ:row[a]?=j' row[a]:=EL ad;generalize row[a]=c at D aQ;refine aN (ab.cls c<|D▸Eu) λaO a_=>?_;have aZ:c∈ws:=(ab.mem c).mpr<|D▸Eu;have bb:ws.length<=S.n:=iI ab.fk λy hm=>(ab.cls y<|(ab.mem y).mp hm).1;have wl:(wD ws).length=ws.length:=Ex _;refine b4<|bO<|ap<|aX<|ac bv<|ac bw<|fT bP (by unfold aM;rw[ET,aQ];rfl) (aT 0x77b5f424022c5508a861a8045b82d10140 rfl hb ad)<|ap<|bF<|ac bw<|aG<|eK<|aH<|gS ?_;have s3:∀{i v},i≠3->∀{m:aL}{A},m 3=j' A->(m.set i v) 3=j' A:=λ{i v}hi{m A}h=>(aL.af _ _<|HF hi).trans h;have aA:((m.set 25<|.int (c:Nat)).set 38<|.int<|(a:Int)+1) 3=j' (.ref<|aD 15):=s3 dd l3;have a7:((m.set 25<|.int (c:Nat)).set 38<|.int<|(a:Int)+1) 25=j' (.int (c:Nat)):=rfl;have bB:((m.set 25<|.int (c:Nat)).set 38<|.int<|(a:Int)+1) 35=j' (.ref<|aD 19):=bv;have bg:((m.set 25<|.int (c:Nat)).set 38<|.int<|(a:Int)+1) 37=j' (.ref<|aD 20):=b1;have bC:((m.set 25<|.int (c:Nat)).set 38<|.int<|(a:Int)+1) 38=j' (.int (a+1:Nat)):=by rfl
   generalize(m.set 25<|.int (c:Nat)).set 38 (.int<|(a:Int)+1)=l' at aA a7 bB bg bC⊢;have z:=K.set ks.wait<|.dict<|wD<|ws.erase c;have k4:=ks.upd (o:=20) dd (.dict<|wD<|ws.erase c) (r:=row) (af:=ws.erase c) (Z':=Z') ks.kp.v ks.row RH.ae;refine co<|sK (K.get ks.wait) (ac a7<|sL (K.get ks.wait) (mz ws) (a0<|aT 0x3bded3e850ac115001a5520 rfl hn bb wl) (by rw[oT,aF aZ]) ?_) λP j=>ac bg j;rw[AC];generalize H'.set (aD 20) (.dict<|wD<|ws.erase c)=H4 at z⊢;generalize O'.upd 20 (.dict<|wD<|ws.erase c)=O4 at z k4;refine ax k4.kp.k λbQ bD=>ax k4.hs.h λch ci=>?_;have bH:(row.drop<|a+1).Nodup/\c∉row.drop (a+1):=by have:=ab.nd;rw[D]at this;exact⟨(FH.mp this).2,(FH.mp this).1⟩
   have bR:(ws.erase c).Nodup:=ab.fk.erase c;have bS:∀x,x∈ws.erase c↔x∈row.drop (a+1):=λx=>by rw[ab.fk.mem_erase_iff,ab.mem,D,EG];exact⟨λh=>h.2.resolve_left h.1,λh=>⟨λe=>bH.2<|e▸h,.inr h⟩⟩
   have bT:∀x∈row.drop<|a+1,x<S.n/\S.rt x=x:=λx E=>ab.cls x<|D▸Ev _ E;refine bG<|bE aA (z.get bD) rfl rfl<|ap<|ac a7<|aH<|Ay (G:=G) N z k4.hs k4.kp ab.kv aO a_ λu aC a1 yF yG=>?_;have aY:=ab.kv.bt N.cm c;refine bA<|aW<|ac rfl<|k6 (gE<|z.get k4.kp.v) (λP j=>ba aA (z.get bD) rfl j) a7 (cC (ec aa Z') _) ?_;rw[k2 N.top];by_cases bj:u=aS Q Z' c
   .refine ma (N.pure aC) (bj▸rfl)<|nx _ _ _ (aT 0x3b573c016880a139ee0a4016880a15420 rfl ad)<|.mk z k4 ⟨ab.kv,ab.iz,ad,bH.1,bR,bS,bT,λx E bp aU=>?_,hb⟩ aA bB bg bC
    .by_cases e:x=c;.rw[e];intro y t hm ht;exact bj▸yF y t hm ht
     .refine ab.gr x E bp λaI=>?_;rw[D]at aI;exact aU<|(EG.mp aI).resolve_left e
   .refine kD (N.pure aC) (N.pure aY) (λe=>bj<|N.inj aC aY e) ?_;have R5:=z.set k4.kp.v<|.dict<|a' aa<|cJ Z' c u;have k5:=k4.upd (o:=17) dd (.dict<|a' aa<|cJ Z' c u) (r:=row) (af:=ws.erase c) (Z':=cJ Z' c u) RH.ae k4.row k4.wait;refine b4<|ac rfl<|gQ<|ba aA (z.get bD) rfl<|ac a7<|hN (z.get k4.kp.v) (cC (ec aa Z') _) (a0<|by unfold a';rw[Ex];exact aE 0x3bda7d0a0d001a5520 rfl hn ab.kv.len) ?_;rw[iN];generalize H4.set (aD 17) (.dict<|a' aa<|cJ Z' c u)=H5 at R5⊢;generalize O4.upd 17 (.dict<|a' aa<|cJ Z' c u)=O5 at R5 k5;refine ax k5.kp.k λck b2=>ax k5.hs.h λcl b3=>ax (jB k5.hs aO) λlu a5=>?_;have cn:=iJ k5.hs.wf a5;refine e4<|ce<|dO aA (R5.get b2) rfl (R5.get b3) rfl rfl<|ap<|ac a7<|aH<|zJ (G:=G+2) R5 k5.hs aO (a_▸a5) λms mp mm=>?_;have ml:ms.length<=42:=by have:=Jc (l₁:=ms) (mp.imp λh=>EP h) λy h=>(mm y).mp h;exact ED ‹_› ‹_›
    refine⟨a0<|by rw[bV];exact ED ‹_› dd,AI (λaj hu=>k5.hs.wf.u lu (E0 a5) aj<|(mm aj).mp hu) ml hn (aE 0x76861a804586861a8045b82d10140 rfl hb) ad (λr af O6 H6 l6 R6 b5 bI b6 b7 b_ hE aw b' ca cb cc az=>?_) R5 k5 aA bB bg bC bH.1 bR bS bT⟩;refine aN (Going.next (c:=c) (r:=r) (af:=af) N.cm I ab ad D aC a1 bj yF (AG N.cm k4.hs I ab.kv aO a_ yG) hE (by exact aT 0x77b47054a1068e008340a940 rfl ml aw) b' ca cb cc a5 λaj hu=>az aj<|(mm aj).mpr hu) λG6 cd=>nx _ _ _ cd<|.mk R6 b5 G6 bI b6 b7 b_
 .as_aux_lemma=>
   rw[ga<|by exact aE 0x77d890640f5420 rfl ad];have ao:row.drop a=[]:=G5<|Gf.mp ad;have a2:∀o,o≠19/\o≠20->((O'.drop 19).drop 20) o=O' o:=λo O=>(RH.bg O.2).trans<|RH.bg O.1;refine q aD ((O'.drop 19).drop 20) H' Z' ((K.drop 19).drop 20) (ks.hs.frame (λw w=>rfl) λo O=>a2 o<|by have:o<=14\/30<=o:=O;exact aB 0x1ddfad4483d69a41ca03c9a3920 rfl this) (ks.kp.frame λo O=>a2 o<|aB 0x3bbf5a8907ad34839cb4520b4120b3d20 rfl O) ab.kv (λc J L=>ab.gr c J L<|ao▸λh=>(Ez h).elim) (λo O=>?_) (λo O=>?_) ?_ ?_<|a2 21 dd▸ks.fr 21 dd▸M 21 dd▸d1;.rw[l o<|aB 0x777eb5120f5a6906f7bf5aa907ad4483d69a41eb4520 rfl O,a4 o<|aB 0x777eb5520f5a2906f7bf5aa907ad4483d69a41eb4520 rfl O]
   .rw[a2 o<|aB 0x1ddfad4483d69a41bdef7eb5520f5a8907ad3483d68a41eb3d20 rfl O,ks.fr o<|aB 0x777bf5a8907ad3483d68a41bdef7eb5520f5a8907ad3483d68a41eb3d20 rfl O,M o<|aB 0x1ddfad4483d69a41bdef7eb5520f5a8907ad3483d68a41eb3d20 rfl O,bd o<|aB 0x777bf5aa907ad1483d67a41bdef7eb5520f5a8907ad3483d68a41eb3d20 rfl O]
   .rw[RH.bg dd,RH.drop_eq]
   .rw[RH.drop_eq]
end
end
noncomputable abbrev LL:Int:=1000000
noncomputable def cl(y x:Int):Int:=if x< -y then-LL else min x y
noncomputable def ch(y x:Int):Int:=if y<x then LL else max x<|-y
noncomputable def cY(y a hi:Int):Option<|Int×Int:=j' (cl y a,ch y hi)
noncomputable def dQ(i:Fin 7):Option Int:=([none,none,j' 0,j' 1,j'<|-3,j' 9,j' 4]:List<|Option Int).get i
noncomputable def k4(d p c G:Int):Int:=min (min (d*c)<|d*G)<|min (p*c)<|p*G
noncomputable def k5(d p c G:Int):Int:=max (max (d*c)<|d*G)<|max (p*c)<|p*G
noncomputable def eL:Option<|Int×Int:=j' (-LL,LL)
noncomputable def eM(y:Int):Sh->List (Option<|Int×Int)->Option (Int×Int)
 |.lf i,_=>match dQ i with|none=>eL|some v=>cY y v v
 |.un p,[x]=>match x with|none=>none|some (a,hi)=>if p then eL else cY y (-hi)<|-a
 |.bi p,[x,u]=>match x,u with|some (d,b'),j' (c,G)=>if p then cY y (k4 d b' c G) (k5 d b' c G)else cY y (d+c)<|b'+G|_,_=>none
 |_,_=>eL
def b1(y:Int):Option (Int×Int)->Prop|none=>True|some (a,hi)=>a<=hi/\(a=-LL\/-y<=a/\a<=y)/\(hi=LL\/-y<=hi/\hi<=y)
def e6:Option (Int×Int)->Option (Int×Int)->Prop|none,_=>True|some _,none=>False|some (d,p),j' (c,G)=>c<=d/\p<=G
noncomputable def iQ:Option (Int×Int)->Option (Int×Int)->Option (Int×Int)|some (d,p),j' (c,G)=>if min p G<max d c then none else j' (max d c,min p G)|_,_=>none
noncomputable def AO(y:Int):Option (Int×Int)->Nat|none=>0|some (d,p)=>(min p (y+1)-max d (-y-1)+1).toNat
noncomputable def oW(y:Int):Dom (Option<|Int×Int)where
 ok:=b1 y
 le:=e6
 meet:=iQ
 F:=eM y
 top:=eL
 ah:=none
 rk:=AO y
section
variable{y:Int}
theorem te(h0:0<=y)(hm:y<=LL)(x:Int):-LL<=cl y x/\cl y x<=y:=by
 have e:-LL<=-y:=GR hm;have e':-y<=y:=EC (Gi h0) h0;by_cases c:x< -y;.exact(show cl y x=-LL from aF c).symm▸⟨Gv _,EC e e'⟩
 .exact(show cl y x=min x y from aC c).symm▸⟨EC e<|Gt.mpr ⟨FC.mp c,e'⟩,FO _ _⟩
theorem tf(h0:0<=y)(hm:y<=LL)(x:Int):-y<=ch y x/\ch y x<=LL:=by
 have e':-y<=y:=EC (Gi h0) h0;by_cases c:y<x;.exact(show ch y x=LL from aF c).symm▸⟨EC e' hm,Gv _⟩
 .exact(show ch y x=max x (-y)from aC c).symm▸⟨FP _ _,EC (GC.mpr ⟨FC.mp c,e'⟩) hm⟩
theorem AP(hm:y<=LL)(h0:0<=y)(h:x<=u):cl y x<=cl y u:=by
 by_cases c:x< -y;.rw[show cl y x=-LL from aF c];exact(te h0 hm u).1
 .rw[show cl y x=min x y from aC c,show cl y u=min u y from aC λG=>c<|E7 h G];exact Gt.mpr ⟨EC (FT _ _) h,FO _ _⟩
theorem AQ(hm:y<=LL)(h0:0<=y)(h:x<=u):ch y x<=ch y u:=by
 by_cases c:y<u;.rw[show ch y u=LL from aF c];exact(tf h0 hm x).2
 .rw[show ch y u=max u (-y)from aC c,show ch y x=max x (-y)from aC λG=>c<|Fc G h];exact GC.mpr ⟨EC h<|FU _ _,FP _ _⟩
theorem mB(hm:y<=LL)(h0:0<=y)(h:a<=hi):b1 y<|cY y a hi:=by
 have e':-y<=y:=EC (Gi h0) h0;have d:cl y a=-LL\/-y<=cl y a/\cl y a<=y:=by
  by_cases c:a< -y;.exact .inl<|aF c
  .exact(show cl y a=min a y from aC c).symm▸.inr ⟨Gt.mpr ⟨FC.mp c,e'⟩,FO _ _⟩
 have p:ch y hi=LL\/-y<=ch y hi/\ch y hi<=y:=by
  by_cases c:y<hi;.exact .inl<|aF c
  .exact(show ch y hi=max hi (-y)from aC c).symm▸.inr ⟨FP _ _,GC.mpr ⟨FC.mp c,e'⟩⟩
 refine⟨?_,d,p⟩;by_cases c:a< -y;.exact(show cl y a=-LL from aF c).symm▸EC (GR hm) (tf h0 hm hi).1
 .by_cases G:y<hi;.exact(show ch y hi=LL from aF G).symm▸EC (te h0 hm a).2 hm
  .exact(show cl y a=min a y from aC c).symm▸(show ch y hi=max hi (-y)from aC G).symm▸EC (FT _ _) (EC h<|FU _ _)
theorem oX(hm:y<=LL)(h0:0<=y)(J:c<=d)(L:p<=G):e6 (cY y d p)<|cY y c G:=⟨AP hm h0 J,AQ hm h0 L⟩
theorem oY{d p x u:Int}(J:d<=x)(L:x<=p):min (d*u) (p*u)<=x*u/\x*u<=max (d*u) (p*u):=by
 refine(IF 0 u).elim (λh=>?_) λh=>?_;.exact⟨EC (FT _ _)<|G_ J h,EC (G_ L h)<|FP _ _⟩
 .exact⟨EC (FO _ _)<|KU L h,EC (KU J h)<|FU _ _⟩
theorem mC{d p c G x u:Int}(J:d<=x)(L:x<=p)(b:c<=u)(h4:u<=G):k4 d p c G<=x*u/\x*u<=k5 d p c G:=by have e:=oY (u:=u) J L;have e1:=oY (u:=d) b h4;have e2:=oY (u:=p) b h4;rw[G3 c d,G3 G d,G3 u d]at e1;rw[G3 c p,G3 G p,G3 u p]at e2;exact⟨EC (Gt.mpr ⟨EC (FT _ _) e1.1,EC (FO _ _) e2.1⟩) e.1,EC e.2<|GC.mpr ⟨EC e1.2<|FU _ _,EC e2.2<|FP _ _⟩⟩
theorem tg:k4 d p c G<=k5 d p c G:=EC (EC (FT _ _)<|FT _ _)<|EC (FU _ _)<|FU _ _
theorem oZ(h0:0<=y):b1 y eL:=⟨by decide,.inl rfl,.inl rfl⟩
theorem mD(hm:y<=LL)(h:b1 y x):e6 x eL:=by induction x with|none=>trivial|some x=>exact⟨h.2.1.elim (λe=>Int.le_of_eq e.symm) λe=>EC (GR hm) e.1,h.2.2.elim Int.le_of_eq λe=>EC e.2 hm⟩
theorem o0(x:Option<|Int×Int):e6 x x:=by induction x with|none=>trivial|some x=>exact⟨Gv _,Gv _⟩
@[elab_as_elim]theorem iR{α:Type}{P:List α->Prop}{z:List α}(h:z.length=1)(k:∀x,P [x]):P z:=by refine ax (M5.mp h) λx s=>?_;clear h;subst s;exact k x
@[elab_as_elim]theorem jF{α:Type}{P:List α->Prop}{z:List α}(h:z.length=2)(k:∀x u,P [x,u]):P z:=by induction z with|nil=>exact Ja h|cons x z=>exact iR (P:=λz=>P<|x::z) (Hw h)<|k x
theorem hR(h:z.length=1):∃x,z=[x]:=M5.mp h
theorem iS(h:z.length=2):∃x u,z=[x,u]:=by
 obtain _|⟨x,z⟩:=z;.cases h
 .refine ax (hR<|Hw h) λu s=>?_;clear h;subst s;exact h1 x u rfl
theorem mE(h:db R [x] ys):∃u,ys=[u]/\R x u:=by
 obtain _|⟨u,_|⟨M,ys⟩⟩:=ys;.exact h.elim
 .exact bm u rfl h.1
 .exact h.2.elim
theorem AR(hm:y<=LL)(h0:0<=y)(h:b1 y x):b1 y<|eM y (.un p) [x]:=by induction x with|none=>trivial|some x=>induction p;exact mB hm h0<|GR h.1;exact oZ h0
theorem AS(hm:y<=LL)(h0:0<=y)(J:b1 y x)(L:b1 y u):b1 y<|eM y (.bi p) [x,u]:=by induction x with|none=>trivial|some x=>induction u with|none=>trivial|some u=>induction p;exact mB hm h0<|Ji J.1 L.1;exact mB hm h0 tg
theorem AT(hm:y<=LL)(h0:0<=y)(hl:z.length=r.ar)(h:∀x∈z,b1 y x):b1 y<|eM y r z:=by induction r with
 |lf i=>show b1 y<|match dQ i with|none=>eL|some v=>cY y v v;cases dQ i with|none=>exact oZ h0|some v=>exact mB hm h0<|Gv _
 |un p=>refine ax (hR hl) λx s=>?_;clear hl;subst s;exact AR hm h0<|h _ Eu|bi p=>refine cL (iS hl) λx u s=>?_;clear hl;subst s;exact AS hm h0 (h _ Eu)<|h _<|Ev _ Eu
theorem AU(hm:y<=LL)(h0:0<=y)(h:e6 x u):e6 (eM y (.un p) [x])<|eM y (.un p) [u]:=by induction x with|none=>trivial|some x=>induction u with|none=>exact h.elim|some u=>induction p;exact oX hm h0 (GR h.2)<|GR h.1;exact o0 _
theorem AV(hm:y<=LL)(h0:0<=y)(E:b1 y x)(hy:b1 y u)(J:e6 x m)(L:e6 u M):e6 (eM y (.bi p) [x,u])<|eM y (.bi p) [m,M]:=by
 obtain _|⟨j,q⟩:=x;.trivial
 obtain _|⟨o,r⟩:=u;.trivial
 obtain _|⟨a,q'⟩:=m;.exact J.elim
 obtain _|⟨r',s'⟩:=M;.exact L.elim
 have J:a<=j/\q<=q':=J;have L:r'<=o/\r<=s':=L;induction p;.exact oX hm h0 (Ji J.1 L.1)<|Ji J.2 L.2
 .have k1:j<=q:=E.1;have A:o<=r:=hy.1;have e1:=mC J.1 (EC k1 J.2) L.1<|EC A L.2;have e2:=mC J.1 (EC k1 J.2) (EC L.1 A) L.2;have e3:=mC (EC J.1 k1) J.2 L.1<|EC A L.2;have Z:=mC (EC J.1 k1) J.2 (EC L.1 A) L.2;exact oX hm h0 (Gt.mpr ⟨Gt.mpr ⟨e1.1,e2.1⟩,Gt.mpr ⟨e3.1,Z.1⟩⟩)<|GC.mpr ⟨GC.mpr ⟨e1.2,e2.2⟩,GC.mpr ⟨e3.2,Z.2⟩⟩
theorem AW(hm:y<=LL)(h0:0<=y)(hl:z.length=r.ar)(E:∀x∈z,b1 y x)(h:db e6 z ys):e6 (eM y r z)<|eM y r ys:=by induction r with|lf i=>exact o0 _|un p=>refine ax (hR hl) λx s=>?_;clear E hl;subst s;refine aA (mE h) λu s h'=>?_;clear h;subst s;exact AU hm h0 h'|bi p=>
  refine cL (iS hl) λx u s=>?_;clear hl;subst s;obtain _|⟨d,ys⟩:=ys;.exact h.elim
  refine aA (mE h.2) λc s L=>?_;subst s;exact AV hm h0 (E _ Eu) (E _<|Ev _ Eu) h.1 L
theorem AX(hb:p=LL\/p<=y)(hd:G<=LL)(h:p<G):p<y+1:=hb.elim (λe=>aJ h<|FC.mpr<|e▸hd) KW
theorem AY(hb:p=LL\/p<=y)(hd:G<=LL)(h:p<=G):min p (y+1)<=min G (y+1)/\(p≠G->min p (y+1)<min G (y+1)):=by refine⟨Gt.mpr ⟨EC (FT _ _) h,FO _ _⟩,λe=>?_⟩;have h':=KX.mpr ⟨h,e⟩;exact E7 (FT _ _)<|Int.lt_min.mpr ⟨h',AX hb hd h'⟩
theorem nb(h0:(0:Int)<=y):-y<=y:=EC (Gi h0) h0
theorem m2(h0:(0:Int)<=y):y<=2*y:=by rw[Int.two_mul];exact Int.le_add_of_nonneg_right h0
theorem jG:(-y-1:Int)<=-y:=Int.sub_le_self _ dd
theorem iT:(y:Int)<=y+1:=Fy<|Int.lt_succ y
theorem th(h0:(0:Int)<=y):-y-1<=y+1:=EC jG<|EC (nb h0) iT
theorem AZ(hb:p=-LL\/-y<=p)(hd:-LL<=G)(h:G<=p):max G (-y-1)<=max p (-y-1)/\(p≠G->max G (-y-1)<max p (-y-1)):=by refine⟨GC.mpr ⟨EC h<|FU _ _,FP _ _⟩,λe=>?_⟩;have h':=KX.mpr ⟨h,HF e⟩;exact Fc (Int.max_lt.mpr ⟨h',hb.elim (λe=>aJ h'<|FC.mpr<|e▸hd) λe=>Fc (Int.sub_one_lt_of_le<|Gv _) e⟩)<|FU _ _
theorem ti(h:d<=p)(h0:0<=y)(ha:d=-LL\/d<=y)(hb:p=LL\/-y<=p):max d (-y-1)<=min p (y+1):=by
 have k1:-y-1<=y+1:=th h0;refine GC.mpr ⟨Gt.mpr ⟨h,?_⟩,Gt.mpr ⟨?_,k1⟩⟩
 .refine ha.elim (λe=>?_) λe=>?_;.exact e▸EC (show(-LL:Int)<=0 by decide) (EC h0 iT)
  .exact EC e iT
 .refine hb.elim (λe=>?_) λe=>?_;.exact e▸EC (EC jG<|Gi h0) (show(0:Int)<=LL by decide)
  .exact EC jG e
theorem rk_lt{d p c G:Int}(J:c<=d)(L:p<=G)(b:d<=p)(h:p<G\/c<d):(p-d+1).toNat<(G-c+1).toNat:=(Oo<|KW<|ID.mpr<|EC J<|EC b L).mpr<|Int.add_lt_add_right (h.elim (λh=>Fc (Int.sub_lt_sub_right h d)<|Int.sub_le_sub_left J G) λh=>Fc (Int.sub_lt_sub_left h p)<|NQ L c) 1
theorem A0{d p:Int}(h:d<=p):0<(p-d+1).toNat:=Int.lt_toNat.mpr<|KW<|ID.mpr h
theorem A1(J:p<=y+1)(L:-y-1<=d)(hm:y<=9):(p-d+1).toNat<=30:=Int.toNat_le.mpr<|EC (KD (Int.sub_le_sub (EC J<|KD hm 1)<|EC (NQ (GR hm) 1) L) 1) dd
theorem meet_ok{d p c G:Int}(h:max d c<=min p G)(x2:d=-LL\/-y<=d/\d<=y)(x3:p=LL\/-y<=p/\p<=y)(y2:c=-LL\/-y<=c/\c<=y)(y3:G=LL\/-y<=G/\G<=y):b1 y<|j' (max d c,min p G):=by
 refine⟨h,?_,?_⟩
 .refine(IF d c).elim (λh=>?_) λh=>?_;.exact(Gr h).symm▸y2
  .exact(G8 h).symm▸x2
 .refine(IF p G).elim (λh=>?_) λh=>?_;.exact(GU h).symm▸x3
  .exact(GD h).symm▸y3
set_option tactic.hygienic true in
theorem tj(hm:y<=9)(h0:2<=y):(oW y).Law:=by
 have hL:y<=LL:=by show y<=1000000;exact EC ‹_› dd
 have m:(0:Int)<=y:=EC dd h0;refine⟨oZ m,λ{d}=>mD hL,o0,λ{d p c}J L=>?_,λ{d p}_ _ J L=>?_,λ{d p}ha hb=>?_,λ{d p}ha hb=>?_,λ{d p}ha hb=>?_,λ{d p c}ha hb hc J L=>?_,λ{r z}=>AT hL m,λ{r z ys}hl E _=>AW hL m hl E,λ{d p}ha hb J L=>?_,λ{d}ha=>?_,trivial⟩;.induction d with|none=>trivial|some d=>induction p with|none=>exact J.elim|some p=>induction c with|none=>exact L.elim|some c=>exact⟨EC L.1 J.1,EC J.2 L.2⟩
 .induction d with
  |none=>induction p with|none=>rfl|some=>exact L.elim
  |some d=>induction p with|none=>exact J.elim|some p=>exact aY j'<|Prod.ext (Ip L.1 J.1)<|Ip J.2 L.2
 .induction d with|none=>trivial|some d=>induction p with|none=>trivial|some p=>
    obtain⟨d,Q⟩:=d;obtain⟨p,b'⟩:=p;show b1 y<|if _ then _ else _;split;.trivial
    .next h=>exact meet_ok (FC.mp h) ha.2.1 ha.2.2 hb.2.1 hb.2.2
 .induction d with|none=>trivial|some d=>induction p with|none=>trivial|some p=>
    show e6 (if _ then _ else _) _;split;.trivial
    .exact⟨FU _ _,FT _ _⟩
 .induction d with|none=>trivial|some d=>induction p with|none=>trivial|some p=>
    show e6 (if _ then _ else _) _;split;.trivial
    .exact⟨FP _ _,FO _ _⟩
 .induction c with|none=>trivial|some c=>induction d with|none=>exact J.elim|some d=>induction p with|none=>exact L.elim|some p=>clear ha;obtain⟨d,b'⟩:=d;clear hb;obtain⟨c',G⟩:=p;obtain⟨e,w⟩:=c;have J:d<=e/\w<=b':=J;have L:c'<=e/\w<=G:=L;have b:e<=w:=hc.1;show e6 _<|if _ then _ else _;have h4:max d c'<=e:=GC.mpr ⟨J.1,L.1⟩;have h5:w<=min b' G:=Gt.mpr ⟨J.2,L.2⟩;exact aC (FC.mpr<|EC h4<|EC b h5)▸⟨h4,h5⟩
 .match d,p,ha,hb,J,L with
  |none,none,_,_,_,L=>exact aJ rfl L|none,j' (c,G),_,hb,_,_=>refine aZ hb λy1 y2 y3=>?_;show 0<(min G (y+1)-max c (-y-1)+1).toNat;exact A0<|ti y1 m (y2.imp_right And.right)<|y3.imp_right OY|some _,none,_,_,J,_=>exact J.elim|some (d,p),j' (c,G),ha,hb,J,L=>
   refine aZ ha λx1 x2 x3=>aZ hb λy1 y2 y3=>?_;have J:c<=d/\p<=G:=J;have t:=mD hL (x:=j' (c,G)) ⟨y1,y2,y3⟩;have aj:=AY (x3.imp_right And.right) t.2 J.2;have v:=AZ (x2.imp_right OY) t.1 J.1;refine rk_lt v.1 aj.1 (ti x1 m (x2.imp_right And.right)<|x3.imp_right OY) ?_;by_cases e:p=G;.exact .inr<|v.2 λe'=>L<|e'▸e▸rfl
   .exact .inl<|aj.2 e
 .match d with|none=>exact E8 _|some (d,p)=>show(min p (y+1)-max d (-y-1)+1).toNat<=30;have J:min p (y+1)<=y+1:=FO _ _;have L:-y-1<=max d (-y-1):=FP _ _;exact A1 J L hm
end
set_option genCtorIdx true in
inductive Fg where|top|ah|num(k:Int)
def gT(l:Int):Fg->Prop|.num k=>0<=k/\k<l|_=>True
def bX(d p:Fg):Prop:=d=.ah\/p=.top\/d=p
noncomputable def dX(d p:Fg):Fg:=match d,p with|.top,p=>p|d,.top=>d|.num i,.num a=>if i=a then .num i else .ah|_,_=>.ah
def cK(l:Int):Sh->List Fg->Fg
 |.lf i,_=>match dQ i with|none=>.top|some v=>.num<|v%l
 |.un p,[x]=>if p then .top else match x with|.top=>.top|.ah=>.ah|.num k=>.num<|-k%l
 |.bi p,[x,u]=>match x,u with|.top,_=>.top|_,.top=>.top|.num i,.num a=>.num<|(if p then i*a else i+a)%l|_,_=>.ah
 |_,_=>.top
noncomputable def o2:Fg->Nat|.ah=>0|.num _=>1|.top=>2
def o3(l:Int):Dom Fg where
 ok:=gT l
 le:=bX
 meet:=dX
 F:=cK l
 top:=.top
 ah:=.ah
 rk:=o2
theorem o4(hn:0<l):gT l<|.num<|x%l:=⟨MQ _<|JI hn,Lu _ hn⟩
theorem bX.el{P:Fg->Fg->Prop}{d p:Fg}(h:bX d p)(J:∀p,P .ah p)(L:∀d,P d .top)(b:∀d,P d d):P d p:=by
 rcases h with e|e|e;.exact e▸J _
 .exact e▸L _
 .exact e▸b _
theorem f1(p:Fg):bX .ah p:=.inl rfl
theorem hp(d:Fg):bX d .top:=.inr<|.inl rfl
theorem f2(d:Fg):bX d d:=.inr<|.inr rfl
theorem tm(h:bX .top p):p=.top:=h.elim (λe=>nomatch e) λh=>h.elim id IV
theorem A2(h:bX d .ah):d=.ah:=h.elim id λh=>h.elim (λe=>nomatch e) id
theorem tn{d p c:Fg}(J:bX d p)(L:bX p c):bX d c:=bX.el (P:=λd p=>bX p c->bX d c) J (λG G=>f1 _) (λG h=>tm h▸hp _) (λG h=>h) L
theorem A3(d:Fg):dX d .top=d:=by induction d<;>rfl
theorem o5(p:Fg):dX .ah p=.ah:=by induction p<;>rfl
theorem mF(d:Fg):dX d d=d:=by induction d with|num i=>exact aF rfl|_=>rfl
theorem o6:dX (.num i) (.num a)=.ah\/i=a:=by
 by_cases h:i=a;.exact .inr h
 .exact .inl<|aC h
theorem o7(x:Fg):cK l (.bi p) [x,.top]=.top:=by induction x<;>rfl
theorem A4(u:Fg){x m:Fg}(h:bX x m):bX (cK l (.bi p) [x,u])<|cK l (.bi p) [m,u]:=bX.el (P:=λx m=>bX (cK l (.bi p) [x,u])<|cK l (.bi p) [m,u]) h (λm=>by induction u with|top=>exact(o7 m).symm▸hp _|_=>exact f1 _) (λx=>hp _) λx=>f2 _
theorem A5(x:Fg){u M:Fg}(h:bX u M):bX (cK l (.bi p) [x,u])<|cK l (.bi p) [x,M]:=bX.el (P:=λu M=>bX (cK l (.bi p) [x,u])<|cK l (.bi p) [x,M]) h (λM=>by induction x with|top=>exact hp _|_=>exact f1 _) (λu=>(o7 x).symm▸hp _) λu=>f2 _
theorem A6{x m:Fg}(h:bX x m):bX (cK l (.un p) [x])<|cK l (.un p) [m]:=by induction p with|true=>exact f2 _|false=>exact bX.el (P:=λx m=>bX (cK l (.un EF) [x])<|cK l (.un EF) [m]) h (λm=>f1 _) (λx=>hp _) λx=>f2 _
theorem A7(hn:0<l)(hl:z.length=r.ar):gT l<|cK l r z:=by induction r with
 |lf i=>show gT l<|match dQ i with|none=>.top|some v=>.num<|v%l;cases dQ i with|none=>trivial|some v=>exact o4 hn
 |un p=>refine ax (hR hl) λx s=>?_;subst s;induction p with|true=>trivial|false=>induction x with|num k=>exact o4 hn|_=>trivial
 |bi p=>refine cL (iS hl) λx u s=>?_;subst s;induction x with
  |num i=>induction u with|num a=>exact o4 hn|_=>trivial
  |top=>trivial|ah=>induction u<;>trivial
theorem A8(hl:z.length=r.ar)(h:db bX z ys):bX (cK l r z)<|cK l r ys:=by induction r with|lf i=>exact f2 _|un p=>refine ax (hR hl) λx s=>?_;clear hl;subst s;refine aA (mE h) λu s h'=>?_;clear h;subst s;exact A6 h'|bi p=>
  refine cL (iS hl) λx u s=>?_;clear hl;subst s;obtain _|⟨d,ys⟩:=ys;.exact h.elim
  refine aA (mE h.2) λc s L=>?_;subst s;exact tn (A4 _ h.1)<|A5 _ L
theorem tq{l:Int}(hn:0<l):(o3 l).Law where
 c9:=trivial
 le_top _:=hp _
 refl:=f2
 trans:=tn
 anti{d p}_ _ J L:=bX.el (P:=λd p=>bX p d->d=p) J (λG h=>(A2 h).symm) (λG h=>tm h) (λG G=>rfl) L
 meet_ok{d p}ha hb:=by induction d with|top=>exact hb|ah=>show gT l<|dX _ _;rw[o5];trivial|num i=>induction p with|top=>exact ha|ah=>trivial|num a=>
    show gT l<|dX (.num i)<|.num a;refine o6 (i:=i) (a:=a).elim (λe=>?_) λe=>?_;.rw[e];trivial
    .rw[e,mF];exact hb
 dk{d p}_ _:=by show bX (dX d p) d;induction d with|top=>exact hp _|ah=>rw[o5];exact f1 _|num i=>induction p with|top=>exact f2 _|ah=>exact f1 _|num a=>
    refine o6 (i:=i) (a:=a).elim (λe=>?_) λe=>?_;.exact e▸f1 _
    .rw[e,mF];exact f2 _
 ef{d p}_ _:=by show bX (dX d p) p;induction d with|top=>exact f2 _|ah=>rw[o5];exact f1 _|num i=>induction p with|top=>exact hp _|ah=>exact f1 _|num a=>
    refine o6 (i:=i) (a:=a).elim (λe=>?_) λe=>?_;.exact e▸f1 _
    .rw[e,mF];exact f2 _
 le_meet{d p c}_ _ _ J L:=bX.el (P:=λc d=>bX c p->bX c (dX d p)) J (λG G=>f1 _) (λG h=>h) (λc h=>bX.el (P:=λc p=>bX c<|dX c p) h (λG=>f1 _) (λc=>(A3 c).symm▸f2 c) λc=>(mF c).symm▸f2 c) L
 gg hl _:=A7 hn hl
 mono hl _ _ h:=A8 hl h
 rk_lt{d p}_ _ h L:=bX.el (P:=λd p=>d≠p->o2 d<o2 p) h (λp h=>by induction p with|ah=>exact aJ rfl h|_=>exact Jo _) (λd h=>by induction d with|top=>exact aJ rfl h|ah=>exact Jo _|num i=>exact Fq _) (λG h=>aJ rfl h) L
 rk_le{d}_:=by induction d<;>exact Nat.le_of_ble_eq_true rfl
 dq:=trivial
section
variable{C:V->Hp->Prop}
theorem a1{P R:Prop}(h:P):if Do=Do then P else R:=h
theorem a3{P R:Prop}(h:R):if EF=Do then P else R:=h
theorem jH(h:i<a)(q:P Do):bK H .lt (.int i) (.int a) P:=by show P<|decide _;exact dI h▸q
theorem mG(h:¬i<a)(q:P EF):bK H .lt (.int i) (.int a) P:=by show P<|decide _;exact ga h▸q
theorem A9(h:i<=a)(q:P Do):bK H .le (.int i) (.int a) P:=by show P<|decide _;exact dI h▸q
theorem k7(h:a<i)(q:P Do):bK H .gt (.int i) (.int a) P:=by show P<|decide _;exact dI h▸q
theorem k8(h:¬a<i)(q:P EF):bK H .gt (.int i) (.int a) P:=by show P<|decide _;exact ga h▸q
noncomputable abbrev hS:V:=.str [99,108,97,115,104]
def o8(H:Hp)(ov K:V)(C:V->Hp->Prop):Prop:=av (bN K) λl=>0<=l/\l<1000000/\match ov with|.str r=>l.toNat<=r.length/\r.length<=aR/\C (.str<|r.take l.toNat) H|.lst z=>z.length<=aR/\C (.lst<|z.take l.toNat) H|_=>False
theorem mH(k:am tab ab D m H λov H=>am tab ab x m H λK H=>o8 H ov K C):am tab ab (.fz D x) m H C:=k
theorem tt{r:List Nat}{l:Nat}(hn:l<=r.length)(hl:r.length<=1000)(q:C (.str<|r.take l) H):o8 H (.str r) (.int (l:Int)) C:=⟨Gh _,aE 0x77b8f424022e40a7d0a0d020 rfl hn hl,hn,a0 hl,q⟩
theorem A_(hn:l<=r.length)(hl:r.length<=1000)(q:C (.str<|r.drop l) H):oD H l (.str r) C:=⟨hn,a0 hl,q⟩
theorem A'(hl:r.length<=1000)(q:C (.int r.length) H):mh H (.str r) C:=⟨a0 hl,q⟩
theorem gU(hl:z.length<=1000)(q:C (.int z.length) H):mh H (.lst z) C:=⟨a0 hl,q⟩
theorem o9(k:am tab ab x m H λv H=>av (h6 v) λr=>av (gG r) λi=>C (.int i) H):am tab ab (.toInt x) m H C:=k
theorem ci(h:∀c∈r,c<128):bs<|.str r:=.str _ _ h
theorem tu{v:Int}(h0:m 0=j' (.str r))(J:m 1=j' (.str [c]))(hc:c<128)(q:if d1 [c] [48,49,50,51,52,53,54,55,56,57]then gG r=j' v/\C (.int v) H else C .none H):aV tab (CN G) (.cons (.be (.bo EF<|.cons (.not<|.dz .lt .le (.k<|.int 0) (.len<|.v 1)<|.k<|.int 1000)<|.cons (.cmp .ne (.comp (.v 2) (.v 2) (.pl<|.v 1)<|.cmp .notIn (.v 2)<|.k<|.str [48,49,50,51,52,53,54,55,56,57])<|.lst EF .nil) .nil) (.cons (.ret<|.k .none) .nil) .nil)<|.cons (.ret<|.toInt<|.v 0) .nil) m H<|fD C:=by have as:∀x∈[c],x<128:=λx E=>ta.mp E▸hc;refine bA<|fC<|jw<|s4<|aG<|dt<|ac J<|A' (show 1<=1000 by decide)<|jH Int.zero_lt_one<|a1<|aG<|A9 (show(1:Int)<=1000 by decide) ?_;refine fC<|aW<|c4<|ce<|ac J ?_;rw[sX as];refine⟨show 1<=aR by decide,kK (λc=>V.str [c]) (λc=>!d1 [c] [48,49,50,51,52,53,54,55,56,57]) (λx E k q=>aW<|ac rfl<|aG q) ?_⟩;cases e:d1 [c] [48,49,50,51,52,53,54,55,56,57]with|true=>rw[e]at q;rw[MA<|by rw[e];decide,MP];refine fW<|aH<|ma (.lst _ _ λd h=>(Ez h).elim) rfl<|aU (o:=.nil)<|o9<|ac h0 ?_;show av (gG r) _;exact q.1▸q.2|false=>rw[e,aC EX]at q;rw[MC<|by rw[e];decide,MP];refine fW<|aH<|kD (.lst _ _ λx E=>?_) (.lst _ _ λd h=>(Ez h).elim) (λe=>by injection e with e;cases e)<|aU (o:=.nil)<|aG q;exact ta.mp E▸.str _ _ as
theorem tv(i:Fin 7)(q:C (match dQ i with|none=>.none|some v=>.int v) H):CN (G+1) 0 [.str<|cD i] H C:=by
 have D:∀c v,c≠45->c<128->(if d1 [c] [48,49,50,51,52,53,54,55,56,57]then gG [c]=j' v/\C (.int v) H else C .none H)->CN (G+1) 0 [.str [c]] H C:=λc v a hc q=>by have as:∀x∈[c],x<128:=λx E=>ta.mp E▸hc;refine a6 (fn:=nA) rfl rfl<|bG<|bZ<|aW<|mH<|ac rfl<|aG<|tt (l:=1) (EM 1) (show 1<=1000 by decide)<|aG<|c3 (ci as) (ci dd) (λe=>a ?_)<|a3<|ac rfl<|tu (v:=v) rfl rfl hc q;injection e with e;injection e
 revert q;refine sz i (λq=>D 120 0 dd dd q) (λq=>D 121 0 dd dd q) (λq=>D 48 0 dd dd ⟨rfl,q⟩) (λq=>D 49 1 dd dd ⟨rfl,q⟩) ?_ (λq=>D 57 9 dd dd ⟨rfl,q⟩) λq=>D 52 4 dd dd ⟨rfl,q⟩;.intro q;exact a6 (fn:=nA) rfl rfl<|bG<|bZ<|aW<|mH<|ac rfl<|aG<|tt (l:=1) (r:=[45,51]) dd dd<|aG<|cH (ci dd) rfl<|a1<|fE<|ac rfl<|A_ (r:=[45,51]) dd dd<|tu (c:=51) (v:=-3) rfl rfl dd ⟨rfl,q⟩
theorem iU(px:bs x)(a:∀u∈z,bs u)(q:x∈z->P Do)(q2:x∉z->P EF):bK H .isIn x (.lst z) P:=by
 refine⟨px,a,λp hb=>?_⟩;induction p;.exact q2 λh=>EX<|hb.mpr h
 .exact q<|hb.mp rfl
theorem Ba(px:bs x)(a:∀u∈z,bs u)(q:x∈z->P Do)(q2:x∉z->P EF):bK H .isIn x (.tup z) P:=by
 refine⟨px,a,λp hb=>?_⟩;induction p;.exact q2 λh=>EX<|hb.mpr h
 .exact q<|hb.mp rfl
theorem Bb(px:bs x)(a:∀u∈z,bs u)(q:x∈z->P EF)(q2:x∉z->P Do):bK H .notIn x (.tup z) P:=by
 refine⟨px,a,λp hb=>?_⟩;induction p;.exact q2 λh=>EX<|hb.mpr h
 .exact q<|hb.mp rfl
end
def f3(x:Int):V:=if x=-LL then .none else .int x
def f4(x:Int):V:=if x=LL then .none else .int x
def b':Option (Int×Int)->V|none=>hS|some (a,hi)=>if a=-LL/\hi=LL then .none else .tup [f3 a,f4 hi]
section
variable{y w:Int}
def tw(s:V)(P:V->Prop):Prop:=av (bN s) λi=>P<|.int<|-i
theorem eW(k:am tab ab e m H λs H=>tw s λv=>C v H):am tab ab (.neg e) m H C:=k
theorem eX(q:P<|.int<|-i):tw (.int i) P:=q
theorem jI(k:bS tab ab t m H λc H=>if c=Do then fM tab ab Do o m H Kk else Kk c H):bS tab ab (.bo Do<|.cons t o) m H Kk:=k
theorem mI(k:bS tab ab t m H λc H=>if c=Do then Kk Do H else Kk c H):fM tab ab Do (.cons t .nil) m H Kk:=k
theorem gV(q:P<|.int<|if p then max i a else min i a):eD p H [.int i,.int a] P:=by
 show P<|.int<|if p then(if i<a then a else i)else if a<i then a else i;have e:(if p then(if i<a then a else i)else if a<i then a else i)=if p then max i a else min i a:=by
  induction p
  .by_cases h:a<i;.exact(aF h).trans (GD<|Fy h).symm
   .exact(aC h).trans (GU<|FC.mp h).symm
  .by_cases h:i<a;.exact(aF h).trans (Gr<|Fy h).symm
   .exact(aC h).trans (G8<|FC.mp h).symm
 exact e▸q
theorem f5(E:∀P,P .none H->am tab ab x m H P)(q:Kk Do H):bS tab ab (.cmp .isA x<|.k .none) m H Kk:=E _<|aG<|sl q
theorem f6(E:∀P,P v H->am tab ab x m H P)(hv:v≠.none)(q:Kk EF H):bS tab ab (.cmp .isA x<|.k .none) m H Kk:=E _<|aG<|sk hv q
theorem k9(h:x< -y):cl y x=-LL:=aF h
theorem k_(h:¬x< -y):cl y x=min x y:=aC h
theorem la(h:y<x):ch y x=LL:=aF h
theorem lb(h:¬y<x):ch y x=max x (-y):=aC h
theorem lg(hm:y<=9)(h0:0<=y)(g:H d=j' (.inst 1 dx [(9,.int y),(10,.int w)]))(q:C (b'<|if hi<a then none else cY y a hi) H):CN (G+1) 5 [.ref d,.int a,.int hi] H C:=by
 refine a6 (fn:=p8) rfl rfl<|bA<|aW<|ac rfl<|ac rfl ?_;by_cases c:hi<a;.rw[aF c]at q;exact k7 c<|a1<|aU<|aG q
 .rw[aC c]at q;refine k8 c ?_;have f:∀m Kk,m 3=j' (.ref d)->m 11=j' (.int a)->Kk (f3<|cl y a) H->am tab (CN G) (.ite (.cmp .lt (.v 11)<|.neg<|.attr (.v 3) 9) (.k .none)<|.mm EF<|.cons (.v 11)<|.cons (.attr (.v 3) 9) .nil) m H Kk:=λm Kk b M k=>by
   refine bZ<|aW<|ac M<|eW<|ba b g rfl<|eX ?_;by_cases c1:a< -y;.rw[k9 c1]at k;exact jH c1<|a1<|aG k
   .rw[k_ c1]at k;refine mG c1<|a3<|f0<|ap<|ac M<|ap<|ba b g rfl<|aH<|gV ?_;have:f3 (min a y)=.int (min a y):=aC<|JI<|Fc (Fc (dd:(-1000000:Int)< -9)<|GR hm)<|Gt.mpr ⟨FC.mp c1,EC (Gi h0) h0⟩;rw[this]at k;exact k
  have i:∀m Kk,m 3=j' (.ref d)->m 12=j' (.int hi)->Kk (f4<|ch y hi) H->am tab (CN G) (.ite (.cmp .gt (.v 12)<|.attr (.v 3) 9) (.k .none)<|.mm Do<|.cons (.v 12)<|.cons (.neg<|.attr (.v 3) 9) .nil) m H Kk:=λm Kk b A k=>by
   refine bZ<|aW<|ac A<|ba b g rfl ?_;by_cases c1:y<hi;.rw[la c1]at k;exact k7 c1<|a1<|aG k
   .rw[lb c1]at k;refine k8 c1<|a3<|f0<|ap<|ac A<|ap<|eW<|ba b g rfl<|eX<|aH<|gV ?_;have:f4 (max hi<|-y)=.int (max hi<|-y):=aC<|Oc<|E7 (GC.mpr ⟨EC (FC.mp c1) hm,EC (Gi h0) (dd:(0:Int)<=9)⟩) (dd:(9:Int)<1000000);rw[this]at k;exact k
  refine bG<|f _ _ rfl rfl<|bG<|i _ _ rfl rfl<|aU<|bZ ?_;have q:C (if cl y a=-LL/\ch y hi=LL then .none else .tup [f3<|cl y a,f4<|ch y hi]) H:=q;by_cases c1:cl y a=-LL
  .have e1:f3 (cl y a)=.none:=aF c1;rw[e1]at q⊢;refine jI<|f5 (λP j=>ac rfl j)<|a1 ?_;by_cases c2:ch y hi=LL;.have e2:f4 (ch y hi)=.none:=aF c2;rw[aF ⟨c1,c2⟩]at q;rw[e2];exact mI<|f5 (λP j=>ac rfl j)<|a1<|a1<|aG q
   .have e2:f4 (ch y hi)=.int (ch y hi):=aC c2;rw[aC λh=>c2 h.2]at q;rw[e2]at q⊢;exact mI<|f6 (v:=.int<|ch y hi) (λP j=>ac rfl j) (λe=>nomatch e)<|a3<|a3<|bO<|ap<|ac rfl<|ap<|ac rfl<|aH q
  .have e1:f3 (cl y a)=.int (cl y a):=aC c1;rw[aC λh=>c1 h.1]at q;rw[e1]at q⊢;exact jI<|f6 (v:=.int<|cl y a) (λP j=>ac rfl j) (λe=>nomatch e)<|a3<|a3<|bO<|ap<|ac rfl<|ap<|ac rfl<|aH q
theorem o_(g:H d=j' (.inst 1 dx [(9,.int y),(10,.int w)]))(q:C (.tup [.int<|if a=-LL then-w else a,.int<|if hi=LL then w else hi]) H):CN (G+1) 6 [.ref d,b'<|j' (a,hi)] H C:=by
 have ab:∀m,m 3=j' (.ref d)->m 11=j' (f3 a)->m 12=j' (f4 hi)->aV tab (CN G) (.cons (.ret<|.tup<|.cons (.ite (.cmp .isA (.v 11)<|.k .none) (.neg<|.attr (.v 3) 10)<|.v 11)<|.cons (.ite (.cmp .isA (.v 12)<|.k .none) (.attr (.v 3) 10)<|.v 12) .nil) .nil) m H (fD C):=λm b M A=>by
  refine aU<|bO<|ap<|bZ ?_;have f:∀Kk,Kk (.int<|if hi=LL then w else hi) H->am tab (CN G) (.ite (.cmp .isA (.v 12)<|.k .none) (.attr (.v 3) 10)<|.v 12) m H Kk:=λKk k=>by
   refine bZ ?_;by_cases c:hi=LL;.rw[aF c]at k;exact f5 (λP j=>ac (A.trans<|aY j'<|aF c) j)<|a1<|ba b g rfl k
   .rw[aC c]at k;have e:f4 hi=.int hi:=aC c;exact f6 (v:=.int hi) (λP j=>ac (by rw[A,e]) j) (λe=>nomatch e)<|a3<|ac (by rw[A,e]) k
  by_cases c:a=-LL;.rw[aF c]at q;exact f5 (λP j=>ac (M.trans<|aY j'<|aF c) j)<|a1<|eW<|ba b g rfl<|eX<|ap<|f _<|aH q
  .rw[aC c]at q;have e:f3 a=.int a:=aC c;exact f6 (v:=.int a) (λP j=>ac (by rw[M,e]) j) (λe=>nomatch e)<|a3<|ac (by rw[M,e])<|ap<|f _<|aH q
 refine a6 (fn:=p9) rfl rfl<|b4<|bZ ?_;by_cases c:a=-LL/\hi=LL;.have e:b' (j' (a,hi))=.none:=aF c;rw[e];refine f5 (λP j=>ac rfl j)<|a1<|bO<|ap<|aG<|ap<|aG<|aH<|gS<|ab _ rfl (aY j' (aF c.1).symm)<|aY j' (aF c.2).symm
 .have e:b' (j' (a,hi))=.tup [f3 a,f4 hi]:=aC c;rw[e];exact f6 (v:=.tup [f3 a,f4 hi]) (λP j=>ac rfl j) (λe=>nomatch e)<|a3<|ac rfl<|gS<|ab _ rfl rfl rfl
end
section
variable{y w:Int}
noncomputable def Kl(y x:Int):Int:=max (-y-1)<|min x<|y+1
def cS(y j q:Int):Prop:=Kl y j=Kl y q
def eN(y w x u:Int):Prop:=x=u/\-y<=x/\x<=y\/x=-LL/\u=-w\/x=LL/\u=w
theorem mJ(h:j<=q):Kl y j<=Kl y q:=GC.mpr ⟨FU _ _,EC (Gt.mpr ⟨EC (FT _ _) h,FO _ _⟩)<|FP _ _⟩
theorem tx{Kk:Int->Int}(hK:∀{d p},d<=p->Kk d<=Kk p)(j q:Int):Kk (min j q)=min (Kk j) (Kk q):=by
 refine(IF j q).elim (λh=>?_) λh=>?_;.rw[GU h,GU<|hK h]
 .rw[GD h,GD<|hK h]
theorem ty{Kk:Int->Int}(hK:∀{d p},d<=p->Kk d<=Kk p)(j q:Int):Kk (max j q)=max (Kk j) (Kk q):=by
 refine(IF j q).elim (λh=>?_) λh=>?_;.rw[Gr h,Gr<|hK h]
 .rw[G8 h,G8<|hK h]
theorem jJ(h0:0<=y)(h:y<j):Kl y j=y+1:=(aY (max<|-y-1)<|GD h).trans<|Gr<|th h0
theorem jK(h0:0<=y)(h:j< -y):Kl y j=-y-1:=(aY (max<|-y-1)<|GU<|EC (Fy h)<|EC (nb h0) iT).trans<|G8<|NR h
theorem mK(h:¬y<j)(h':¬j< -y):Kl y j=j:=(aY (max<|-y-1)<|GU<|EC (FC.mp h) iT).trans<|Gr<|EC jG<|FC.mp h'
theorem pa(y j:Int):y<j\/j< -y\/¬y<j/\¬j< -y:=by
 by_cases h:y<j;.exact .inl h
 .by_cases h':j< -y;.exact .inr<|.inl h'
  .exact .inr<|.inr ⟨h,h'⟩
theorem tz(h0:0<=y)(j:Int):Kl y (-j)=-Kl y j:=by
 rcases pa y j with h|h|h;.rw[jJ h0 h,jK h0<|Ho h];exact M6.symm
 .rw[jK h0 h,jJ h0<|NS h,Int.neg_sub,Int.sub_neg,KA]
 .rw[mK h.1 h.2,mK (λe=>h.2<|NS e) λe=>h.1<|NT e]
theorem tA(h0:0<=y)(j:Int):cl y j=cl y (Kl y j):=by
 rcases pa y j with h|h|h;.rw[jJ h0 h,k_<|FC.mpr<|EC (nb h0)<|Fy h,k_<|FC.mpr<|EC (nb h0) iT,GD<|Fy h,GD iT]
 .rw[jK h0 h,k9 h,k9<|Int.lt_of_le_sub_one<|Gv _]
 .rw[mK h.1 h.2]
theorem tB(h0:0<=y)(j:Int):ch y j=ch y (Kl y j):=by
 rcases pa y j with h|h|h;.rw[jJ h0 h,la h,la<|Int.lt_succ y]
 .rw[jK h0 h,lb<|FC.mpr<|EC (Fy h)<|nb h0,lb<|FC.mpr<|EC jG<|nb h0,Gr<|Fy h,Gr jG]
 .rw[mK h.1 h.2]
theorem cS.cl(h0:0<=y)(h:cS y j q):cl y j=cl y q:=(tA h0 j).trans<|(aY (LL.cl y) h).trans (tA h0 q).symm
theorem cS.ch(h0:0<=y)(h:cS y j q):ch y j=ch y q:=(tB h0 j).trans<|(aY (LL.ch y) h).trans (tB h0 q).symm
theorem cS.min{j q a q':Int}(h:cS y j q)(h':cS y a q'):cS y (min j a)<|min q q':=(tx mJ j a).trans<|(congr (aY Min.min h) h').trans (tx mJ q q').symm
theorem cS.max{j q a q':Int}(h:cS y j q)(h':cS y a q'):cS y (max j a)<|max q q':=(ty mJ j a).trans<|(congr (aY Max.max h) h').trans (ty mJ q q').symm
theorem cS.neg(h0:0<=y)(h:cS y j q):cS y (-j)<|-q:=(tz h0 j).trans<|(aY Neg.neg h).trans (tz h0 q).symm
theorem cS.hi(h0:0<=y)(h:y<j)(h':y<q):cS y j q:=(jJ h0 h).trans (jJ h0 h').symm
theorem cS.lo(h0:0<=y)(h:j< -y)(h':q< -y):cS y j q:=(jK h0 h).trans (jK h0 h').symm
theorem eN.sim(h0:0<=y)(hL:y<LL)(hf:y<w)(h:eN y w x u):cS y x u:=by
 rcases h with⟨e,_⟩|⟨e,e'⟩|⟨e,e'⟩;.exact aY _ e
 .exact e▸e'▸.lo h0 (Ho hL) (Ho hf)
 .exact e▸e'▸.hi h0 hL hf
theorem ha{y p M:Int}(J:2*y<p)(L:M<=y):-p+M< -y:=Fc (Int.add_lt_add_of_lt_of_le (Ho J) L)<|by rw[Int.two_mul,M6,Int.add_assoc,Int.add_left_neg,JG];exact Gv _
theorem eN.add(hL:2*y<LL)(hf:2*y<w)(h0:0<=y)(h:x=u/\x<=y\/x=-LL/\u=-w)(h':m=M/\m<=y\/m=-LL/\M=-w):cS y (x+m)<|u+M:=by
 rcases h with⟨e,J⟩|⟨e,e1⟩<;>rcases h' with⟨e',L⟩|⟨e',e2⟩;.exact e.symm▸e'.symm▸rfl
 .rw[e',e2,<-e,KA x,KA x];exact .lo h0 (ha hL J)<|ha hf J
 .exact e.symm▸e1.symm▸e'▸.lo h0 (ha hL L) (ha hf L)
 .exact e.symm▸e1.symm▸e'.symm▸e2.symm▸.lo h0 (ha hL<|EC dd h0) (ha hf<|EC (Gi<|Fy<|E7 (Nb dd h0) hf) h0)
theorem mL(d:y<F)(hG:y<ab)(h0:0<=y):cS y (x*F)<|x*ab:=by
 have a:∀{x p},x<0->y<p->x*p< -y:=λ{x p}h h'=>by have e:=G_ (show x<=-1 from NR h)<|EC h0<|Fy h';rw[Int.neg_one_mul]at e;exact E7 e<|Ho h'
 rcases Int.lt_trichotomy x 0 with h|h|h;.exact .lo h0 (a h d)<|a h hG
 .rw[h,JH,JH];rfl
 .have hi:∀{p},y<p->y<x*p:=λ{p}h'=>NT (by rw[<-IB];exact a (Int.neg_neg_of_pos h) h');exact .hi h0 (hi d)<|hi hG
theorem mM(d:y<F)(hG:y<ab)(h0:0<=y):cS y (F*F)<|ab*ab:=by
 have hi:∀{p},y<p->y<p*p:=λ{p}h'=>by have e:=G_ (show 1<=p from E7 h0 h')<|EC h0<|Fy h';rw[J_]at e;exact Fc h' e
 exact .hi h0 (hi d)<|hi hG
theorem eN.mul(hL:y<LL)(hf:y<w)(h0:0<=y)(h:eN y w x u)(h':eN y w m M):cS y (x*m)<|u*M:=by
 rcases h with⟨e,J,L⟩|⟨e,e1⟩|⟨e,e1⟩<;>rcases h' with⟨e',b,h4⟩|⟨e',e2⟩|⟨e',e2⟩;.exact e▸e'▸rfl
 .rw[e,e',e2,M7,M7];exact(mL hL hf h0).neg h0
 .exact e▸e'▸e2▸mL hL hf h0
 .rw[e,e',e1,IB,IB,G3,G3 w];exact(mL hL hf h0).neg h0
 .rw[e,e',e1,e2,Int.neg_mul_neg,Int.neg_mul_neg];exact mM hL hf h0
 .rw[e,e',e1,e2,IB,IB];exact(mM hL hf h0).neg h0
 .rw[e,e',e1,G3,G3 w];exact mL hL hf h0
 .rw[e,e',e1,e2,M7,M7];exact(mM hL hf h0).neg h0
 .exact e.symm▸e'.symm▸e1.symm▸e2.symm▸mM hL hf h0
theorem pb(h0:0<=y)(h:cS y j q)(h':cS y a q'):cY y j a=cY y q q':=by unfold cY;rw[h.cl h0,h'.ch h0]
def bH(w x:Int):Int:=if x=-LL then-w else x
def bI(w x:Int):Int:=if x=LL then w else x
theorem iV(h:b1 y<|j' (a,hi)):eN y w a (bH w a)/\(a=bH w a/\a<=y\/a=-LL/\bH w a=-w):=by
 refine aZ h λJ L b=>?_;dsimp only[bH,eN];by_cases c:a=-LL;.rw[aF c];exact⟨.inr<|.inl ⟨c,rfl⟩,.inr ⟨c,rfl⟩⟩
 .rw[aC c];have:=L.resolve_left c;exact⟨.inl ⟨rfl,this⟩,.inl ⟨rfl,this.2⟩⟩
theorem iW(h:b1 y<|j' (a,hi)):eN y w hi (bI w hi)/\(-hi=-bI w hi/\-hi<=y\/-hi=-LL/\-bI w hi=-w):=by
 refine aZ h λJ L b=>?_;dsimp only[bI,eN];by_cases c:hi=LL;.rw[aF c];exact⟨.inr<|.inr ⟨c,rfl⟩,.inr ⟨by rw[c],rfl⟩⟩
 .rw[aC c];have:=b.resolve_left c;exact⟨.inl ⟨rfl,this⟩,.inl ⟨rfl,Int.neg_le_of_neg_le this.1⟩⟩
theorem pc(hL:y<LL)(hf:y<w)(h0:0<=y)(h:b1 y<|j' (a,hi)):bH w a<=bI w hi:=by
 refine aZ h λJ L b=>?_;dsimp only[bH,bI];by_cases c:a=-LL
 .rw[aF c];by_cases G:hi=LL;.rw[aF G];exact nb<|Fy<|E7 h0 hf
  .rw[aC G];exact EC (Fy<|Ho hf) (b.resolve_left G).1
 .rw[aC c];by_cases G:hi=LL;.rw[aF G];exact EC (L.resolve_left c).2<|Fy hf
  .rw[aC G];exact J
theorem mN(x:Option<|Int×Int):bs<|b' x:=by induction x with|none=>exact .str _ _ dd|some x=>
  obtain⟨a,hi⟩:=x;show PureN 9<|if _ then _ else _;split;.exact .none _
  .refine .tup _ _ λv hv=>?_;rcases EG.mp hv with rfl|hv;.unfold f3;split;exact .none _;exact .int _ _
   .rw[ta.mp hv];unfold f4;split;exact .none _;exact .int _ _
theorem li(h:b' x=hS):x=none:=by induction x with|none=>rfl|some x=>obtain⟨a,hi⟩:=x;change(if _ then _ else _)=hS at h;split at h<;>cases h
theorem b2{z:List V}{l:Nat}{v:V}{P:V->Prop}(E:z[l]?=j' v)(hm:l<1000000)(q:P v):fL H (.lst z) (.int (l:Int)) P:=by show av (d2 z l) _;exact g' E hm▸q
theorem fF{z:List V}{l:Nat}{v:V}{P:V->Prop}(E:z[l]?=j' v)(hm:l<1000000)(q:P v):fL H (.tup z) (.int (l:Int)) P:=by show av (d2 z l) _;exact g' E hm▸q
def ct(x:Int):Prop:=-dC<x/\x<dC
theorem mO{x y:Int}(hm:y<=9)(h:x=-LL\/x=LL\/-y<=x/\x<=y):ct x:=h.elim (λe=>e▸⟨dd,dd⟩) λh=>h.elim (λe=>e▸⟨dd,dd⟩) λh=>⟨Fc (dd:-dC< -9)<|EC (GR hm) h.1,E7 (EC h.2 hm) (dd:9<dC)⟩
theorem iX(hi:ct i)(hj:ct a)(q:P<|.int<|i*a):fd H .mul (.int i) (.int a) P:=⟨⟨hi.1,hi.2,hj.1,hj.2⟩,q⟩
theorem mP(h:body x H (λA H'=>cV body o (ao++[A]) H' Kk) λH'=>cV body o ao H' Kk):cV body (x::o) ao H Kk:=h
theorem tC{ab:CW}{m:aL}{x1 x2:an}{d p c G:Int}(J:∀P,P (.tup [.int d,.int p]) H->am tab ab x1 m H P)(L:∀v,∀P,P (.tup [.int c,.int G]) H->am tab ab x2 (((m.del 18).del 19).set 18 v) H P)(ha:ct d)(hb:ct p)(hc:ct c)(hd:ct G)(q:C (.lst [.int<|d*c,.int<|d*G,.int<|p*c,.int<|p*G]) H):am tab ab (.bx (.bin .mul (.v 18)<|.v 19) (.v 18) (.pl x1) (.v 19)<|.pl x2) m H C:=by have a:∀m x u Kk,m 18=j' (.int x)->m 19=j' (.int u)->ct x->ct u->Kk (.int<|x*u) H->am tab ab (.bin .mul (.v 18)<|.v 19) m H Kk:=λm x u Kk e1 e2 E hy k=>bF<|ac e1<|ac e2<|iX E hy k;refine J _ ⟨show 2<=1000 by decide,L _ _ ⟨show 2<=1000 by decide,?_⟩⟩;refine mP<|a ((((m.del 18).del 19).set 18<|.int d).set 19<|.int c) d c _ rfl rfl ha hc<|mP<|a ((((m.del 18).del 19).set 18<|.int d).set 19<|.int G) d G _ rfl rfl ha hd ?_;refine L _ _ ⟨show 2<=1000 by decide,?_⟩;exact mP<|a ((((m.del 18).del 19).set 18<|.int p).set 19<|.int c) p c _ rfl rfl hb hc<|mP<|a ((((m.del 18).del 19).set 18<|.int p).set 19<|.int G) p G _ rfl rfl hb hd q
theorem tD{x i a k m:Int}{P:Int->Prop}(h:x∈[i,a,k,m])(J:P i)(L:P a)(b:P k)(h4:P m):P x:=by
 refine(EG.mp h).elim (λe=>?_) λh=>?_;.exact e▸J
 refine(EG.mp h).elim (λe=>?_) λh=>?_;.exact e▸L
 refine(EG.mp h).elim (λe=>?_) λh=>?_;.exact e▸b
 .exact ta.mp h▸h4
theorem tE{P:V->Prop}(q:P<|.int<|if p then max (max i a) (max k m)else min (min i a)<|min k m):eD p H [.lst [.int i,.int a,.int k,.int m]] P:=by
 dsimp only[eD];dsimp only[bP,c6];rw[show ca [V.int i,.int a,.int k,.int m]=j' [i,a,k,m]from rfl];refine⟨Ml _ _,λx E hm=>?_⟩;have J:=hm i Eu;have L:=hm a<|Ev _ Eu;have b:=hm k<|Ev _<|Ev _ Eu;have h4:=hm m<|Ev _<|Ev _<|Ev _ Eu;have e:x=if p then max (max i a) (max k m)else min (min i a)<|min k m:=by
  induction p;.refine Ip (Gt.mpr ⟨Gt.mpr ⟨J,L⟩,Gt.mpr ⟨b,h4⟩⟩) ?_;have l1:min (min i a) (min k m)<=min i a:=FT _ _;have l2:min (min i a) (min k m)<=min k m:=FO _ _;exact tD E (EC l1<|FT _ _) (EC l1<|FO _ _) (EC l2<|FT _ _)<|EC l2<|FO _ _
  .refine Ip ?_<|GC.mpr ⟨GC.mpr ⟨J,L⟩,GC.mpr ⟨b,h4⟩⟩;have l1:max i a<=max (max i a) (max k m):=FU _ _;have l2:max k m<=max (max i a) (max k m):=FP _ _;exact tD (P:=λx=>x<=_) E (EC (FU _ _) l1) (EC (FP _ _) l1) (EC (FU _ _) l2)<|EC (FP _ _) l2
 exact e▸q
end
section
variable{G d dx:Nat}{H:Hp}{C:V->Hp->Prop}{y w:Int}
theorem tF{a hi:Int}(hm:y<=9)(hf:0<=w/\w<2000)(h:b1 y<|j' (a,hi)):ct<|bH w a:=by
 refine aZ h λJ L b=>?_;dsimp only[bH];by_cases c:a=-LL;.rw[aF c];exact⟨Ho<|Ie hf.2 dd,E7 (Gi hf.1) dd⟩
 .rw[aC c];exact mO hm<|L.imp id .inr
theorem tG{a hi:Int}(hm:y<=9)(hf:0<=w/\w<2000)(h:b1 y<|j' (a,hi)):ct<|bI w hi:=by
 refine aZ h λJ L b=>?_;dsimp only[bI];by_cases c:hi=LL;.rw[aF c];exact⟨Fc dd hf.1,Ie hf.2 dd⟩
 .rw[aC c];exact mO hm<|.inr b
theorem Bc(hs:∀c∈r,c<128)(ht:∀c∈t,c<128)(q:r=t->(l:Int)=k->P Do)(q2:r≠t\/(l:Int)≠k->P EF):bK H .eq (.tup [.str r,.int (l:Int)]) (.tup [.str t,.int k]) P:=by
 have I:∀{r}{k},(∀c∈r,c<128)->bs (.tup [.str r,.int k]):=λ{r k}h=>.tup _ _ λx E=>by
  rcases EG.mp E with rfl|E;.exact .str _ _ h
  .exact ta.mp E▸.int _ _
 by_cases c:r=t/\(l:Int)=k;.exact cH (I hs) (c.1▸c.2▸rfl)<|q c.1 c.2
 .exact c3 (I hs) (I ht) (λe=>c<|by injection e with e;injection e with e1 e;injection e with e2 _;injection e1 with e1;injection e2 with e2;exact⟨e1,e2⟩)<|q2<|by
   by_cases c1:r=t;.exact .inr λe=>c ⟨c1,e⟩
   .exact .inl c1
theorem tH(g:H d=j' (.inst 1 dx [(9,.int y),(10,.int w)])){z:List<|Int×Int}{m:aL}{Kk:V->Hp->Prop}(b:m 3=j' (.ref d))(h5:m 5=j' (.lst<|z.map λj=>b'<|j' j))(hl:z.length<=2)(k:Kk (.lst<|z.map λj=>.tup [.int<|bH w j.1,.int<|bI w j.2]) H):am tab (CN<|G+1) (.comp (.ai (.v 3) 16<|.cons (.v 13) .nil) (.v 13) (.pl<|.v 5) .c0) m H Kk:=by refine c4<|ce<|ac h5 ⟨a0<|by rw[Ex];exact ED ‹_› dd,fX (λj=>b'<|j' j) (λj:Int×Int=>.tup [.int<|bH w j.1,.int<|bI w j.2]) (λj hp kY q=>bE b g rfl rfl<|ap<|ac rfl<|aH<|o_ g q) k⟩
theorem hU(h4:m i=j' (.str r))(h5:m a=j' (.lst z))(hn:z.length<=1000)(hs:∀c∈r,c<128)(ht:∀c∈t,c<128)(q:r=t->(z.length:Int)=k->aV tab ab N m H λw m H=>match w with|.nx=>aV tab ab o m H Q|.rt v=>Q (.rt v) m H)(q2:r≠t\/(z.length:Int)≠k->aV tab ab o m H Q):aV tab ab (.cons (.be (.cmp .eq (.tup<|.cons (.v i)<|.cons (.len<|.v a) .nil)<|.tup<|.cons (.k<|.str t)<|.cons (.k<|.int k) .nil) N .nil) o) m H Q:=bA<|aW<|bO<|ap<|ac h4<|ap<|dt<|ac h5<|gU hn<|aH<|bO<|ap<|aG<|ap<|aG<|aH<|Bc hs ht (λe e'=>a1<|q e e') λe=>a3<|q2 e
theorem jL{ab:CW}{m:aL}{i:Nat}{z:List<|Int×Int}{l k:Nat}{j:Int×Int}{P:V->Hp->Prop}(h:m i=j' (.lst<|z.map λj=>.tup [.int<|bH w j.1,.int<|bI w j.2]))(hn:z[l]?=j' j)(X:k<2)(hm:l<1000000)(q:P (.int<|if k=0 then bH w j.1 else bI w j.2) H):am tab ab (.sub (.sub (.v i)<|.k<|.int (l:Int))<|.k<|.int (k:Int)) m H P:=by
 refine aX<|aX<|ac h<|aG<|b2 (l:=l) (by rw[ET,hn];rfl) hm<|aG ?_;rcases k with _|_|k;.exact fF rfl dd q
 .exact fF rfl dd q
 .exact aJ X<|Gf.mpr<|MR 2 k
theorem Bd(hl:z.length=r.ar)(h:none∈z):eM y r z=none:=by induction r with|lf i=>rw[Hr.mp hl]at h;exact(Ez h).elim|un p=>refine ax (hR hl) λx s=>?_;clear hl;subst s;exact ta.mp h▸rfl|bi p=>
  refine cL (iS hl) λx u s=>?_;subst s;rcases EG.mp h with e|e;.exact e▸rfl
  .rw[<-ta.mp e];induction x<;>rfl
theorem Be(h:none∉z):∃b:List<|Int×Int,z=b.map some:=by induction z with|nil=>exact⟨[],rfl⟩|cons x z ih=>refine ax (ih λh'=>h<|Ev _ h') λb e=>?_;induction x with|none=>exact aJ Eu h|some j=>exact⟨j::b,e▸rfl⟩
abbrev tI(d:Nat)(r:Sh)(b:List<|Int×Int):aL:=fo [3,0,5] [.ref d,.str<|a7 r,.lst<|b.map λj=>b'<|j' j]
def tJ:XB:=match nB.body with|.cons _<|.cons _ o=>o|_=>.nil
theorem Bf(hm:y<=9)(h0:0<=y)(hf:y<w)(g:H d=j' (.inst 1 dx [(9,.int y),(10,.int w)])){j:Int×Int}(ok:b1 y<|j' j)(q:C (b'<|eM y (.un p) [j' j]) H):aV tab (CN<|G+3) tJ (tI d (.un p) [j]) H<|fD C:=by have hL:y<LL:=E7 hm dd;have m:=dP<|.un p;refine bG<|tH (z:=[j]) g rfl rfl (show 1<=2 by decide) ?_;induction p with|false=>refine hU rfl rfl (show 1<=1000 by decide) m dd (λc c=>aU<|bE rfl g rfl rfl<|ap<|eW<|jL (z:=[j]) (l:=0) (k:=1) rfl rfl dd dd<|eX<|ap<|eW<|jL (z:=[j]) (l:=0) (k:=0) rfl rfl dd dd<|eX<|aH<|lg hm h0 g ?_) λh=>(h.elim (λh=>h rfl) λh=>h rfl).elim;show C (b'<|if-bH w j.1< -bI w j.2 then none else cY y (-bI w j.2)<|-bH w j.1) H;exact aC (FC.mpr<|GR<|pc hL hf h0 ok)▸pb h0 (((iW ok).1.sim h0 hL hf).neg h0) (((iV ok).1.sim h0 hL hf).neg h0)▸q|true=>exact hU rfl rfl (show 1<=1000 by decide) m dd (λh=>aJ h dd) λc=>hU rfl rfl (show 1<=1000 by decide) m dd (λh=>aJ h dd) λc=>hU rfl rfl (show 1<=1000 by decide) m dd (λh=>aJ h dd) λc=>aU<|aG q
theorem Bg(hm:y<=9)(h0:0<=y)(hf:2*y<w/\w<2000)(a:y<w)(g:H d=j' (.inst 1 dx [(9,.int y),(10,.int w)])){x u:Int×Int}(dB:b1 y<|j' x)(d0:b1 y<|j' u)(q:C (b'<|eM y (.bi p) [j' x,j' u]) H):aV tab (CN<|G+3) tJ (tI d (.bi p) [x,u]) H<|fD C:=by have hL:y<LL:=E7 hm dd;have s:2*y<LL:=E7 (K5 hm dd) dd;have m:=dP<|.bi p;refine bG<|tH (z:=[x,u]) g rfl rfl (EM 2) ?_;refine hU rfl rfl (show 2<=1000 by decide) m dd (λc h=>aJ (show((2:Nat):Int)=1 from h) dd) λc=>?_;induction p with|false=>refine hU rfl rfl (show 2<=1000 by decide) m dd (λc c=>aU<|bE rfl g rfl rfl<|ap<|bF<|jL (z:=[x,u]) (l:=0) (k:=0) rfl rfl dd dd<|jL (z:=[x,u]) (l:=1) (k:=0) rfl rfl dd dd<|eK<|ap<|bF<|jL (z:=[x,u]) (l:=0) (k:=1) rfl rfl dd dd<|jL (z:=[x,u]) (l:=1) (k:=1) rfl rfl dd dd<|eK<|aH<|lg hm h0 g ?_) λh=>(h.elim (λh=>h rfl) λh=>h rfl).elim;show C (b'<|if bI w x.2+bI w u.2<bH w x.1+bH w u.1 then none else cY y (bH w x.1+bH w u.1)<|bI w x.2+bI w u.2) H;have e:=(eN.add s hf.1 h0 (iW (w:=w) dB).2 (iW (w:=w) d0).2).neg h0;rw[<-M6,<-M6,Int.neg_neg,Int.neg_neg]at e;exact aC (FC.mpr<|Ji (pc hL a h0 dB)<|pc hL a h0 d0)▸pb h0 (eN.add s hf.1 h0 (iV dB).2 (iV d0).2) e▸q|true=>have b:0<=w/\w<2000:=⟨EC h0<|Fy a,hf.2⟩;refine hU rfl rfl (show 2<=1000 by decide) m dd (λh=>aJ h dd) λc=>hU rfl rfl (show 2<=1000 by decide) m dd (λc c=>?_) λh=>(h.elim (λh=>h rfl) λh=>h rfl).elim;refine bG<|tC (λP j=>aX<|ac rfl<|aG<|b2 (l:=0) rfl dd j) (λv P j=>aX<|ac rfl<|aG<|b2 (l:=1) rfl dd j) (tF hm b dB) (tG hm b dB) (tF hm b d0) (tG hm b d0) ?_;refine aU<|bE rfl g rfl rfl<|ap<|f0<|ap<|ac rfl<|aH<|tE<|ap<|f0<|ap<|ac rfl<|aH<|tE<|aH<|lg hm h0 g ?_;have ae:=eN.mul hL a h0 (iV dB).1 (iV d0).1;have s2:=eN.mul hL a h0 (iV dB).1 (iW d0).1;have s3:=eN.mul hL a h0 (iW dB).1 (iV d0).1;have s4:=eN.mul hL a h0 (iW dB).1 (iW d0).1;show C (b'<|if k5 (bH w x.1) (bI w x.2) (bH w u.1) (bI w u.2)<k4 (bH w x.1) (bI w x.2) (bH w u.1) (bI w u.2)then none else cY y (k4 (bH w x.1) (bI w x.2) (bH w u.1)<|bI w u.2)<|k5 (bH w x.1) (bI w x.2) (bH w u.1)<|bI w u.2) H;exact aC (FC.mpr tg)▸(pb h0 ((ae.min s2).min<|s3.min s4)<|(ae.max s2).max<|s3.max s4)▸q
theorem Bh(hm:y<=9)(h0:2<=y)(hf:2*y<w/\w<2000)(g:H d=j' (.inst 1 dx [(9,.int y),(10,.int w)]))(hl:z.length=r.ar)(E:∀x∈z,b1 y x)(q:C (b'<|eM y r z) H):CN (G+4) 7 [.ref d,.str<|a7 r,.lst<|z.map b'] H C:=by
 have m:0<=y:=EC dd h0;have a:y<w:=E7 (m2 m) hf.1;refine a6 (fn:=nB) rfl rfl<|bA<|aW<|aG<|ac rfl<|iU (ci dd) (λu hy=>?_) (λaI=>a1<|aU<|aG ?_) λM=>a3 ?_;.refine aA (EO.mp hy) λx c s=>?_;clear hy;subst s;exact mN x
 .refine aA (EO.mp aI) λx n e=>?_;rw[li e]at n;rw[Bd hl n]at q;exact q
 refine ax (Be λh=>M<|Fx (f:=b') h) λb s=>?_;subst s;rw[Ex]at hl;have ok:∀j∈b,b1 y<|j' j:=λj hp=>E _<|Fx hp;rw[show(b.map j').map b'=b.map λj=>b' (j' j)from Fb];clear E M;induction r with
 |lf i=>rw[Hr.mp hl]at q⊢;refine bA<|aW<|dt<|ac rfl<|gU (E8 _)<|aG<|gP<|a1<|bG<|cd<|ap<|ac rfl<|aH<|tv (G:=G+2) i ?_;change C (b'<|match dQ i with|none=>eL|some v=>cY y v v) H at q;cases e:dQ i with|none=>rw[e]at q;exact aU (o:=.nil)<|bZ<|f5 (λP j=>ac rfl j)<|a1<|aG q|some v=>rw[e]at q;exact aU (o:=.nil)<|bZ<|f6 (v:=.int v) (λP j=>ac rfl j) (λe=>nomatch e)<|a3<|bE rfl g rfl rfl<|ap<|ac rfl<|ap<|ac rfl<|aH<|lg hm m g<|aC (Int.lt_irrefl v)▸q
 |un p=>refine ax (hR hl) λj s=>?_;clear hl;subst s;exact bA<|aW<|dt<|ac rfl<|gU (show 1<=1000 by decide)<|aG<|gP<|a3<|Bf hm m a g (ok _<|ta.mpr rfl) q|bi p=>refine cL (iS hl) λx u s=>?_;clear hl;subst s;exact bA<|aW<|dt<|ac rfl<|gU (show 2<=1000 by decide)<|aG<|gP<|a3<|Bg hm m hf a g (ok _ Eu) (ok _<|Ev _<|ta.mpr rfl) q
end
section
variable{G d dx:Nat}{H:Hp}{C:V->Hp->Prop}{y w:Int}
theorem e7{P R:Prop}(h:R):if Do=EF then P else R:=h
theorem e8{P R:Prop}(h:P):if EF=EF then P else R:=h
theorem iY(k:bS tab ab t m H λc H=>if c=EF then Kk EF H else Kk c H):fM tab ab EF (.cons t .nil) m H Kk:=k
theorem Bi(k:bS tab ab t m H λc H=>if c=EF then fM tab ab EF o m H Kk else Kk c H):fM tab ab EF (.cons t o) m H Kk:=k
set_option tactic.hygienic true in
theorem hl:b' x=.none↔x=eL:=by induction x with|none=>exact⟨λh=>(nomatch h),λh=>aP h⟩|some x=>
  obtain⟨a,hi⟩:=x;show(if _ then _ else _)=V.none↔_;split;.next h=>exact h.1.symm▸h.2.symm▸⟨λd=>rfl,λd=>rfl⟩
  .next h=>exact⟨λe=>(nomatch e),λe=>aJ ⟨aY Fe<|EA e,aY Prod.snd<|EA e⟩ h⟩
theorem Bj(hL:y<LL)(h:b1 y x):iQ eL x=x:=by induction x with|none=>rfl|some x=>have e:=mD (Fy hL) h;show(if min LL x.2<max (-LL) x.1 then none else j' (max (-LL) x.1,min LL x.2))=j' (x.1,x.2);rw[Gr e.1,GD e.2,aC<|FC.mpr h.1]
theorem Bk(hL:y<LL)(h:b1 y x):iQ x eL=x:=by induction x with|none=>rfl|some x=>have e:=mD (Fy hL) h;show(if min x.2 LL<max x.1 (-LL)then none else j' (max x.1<|-LL,min x.2 LL))=j' (x.1,x.2);rw[G8 e.1,GU e.2,aC<|FC.mpr h.1]
abbrev iZ(y x:Int):Prop:=x=-LL\/-y<=x/\x<=y
abbrev i3(y x:Int):Prop:=x=LL\/-y<=x/\x<=y
theorem pe(h:x=-LL):bH w x=-w:=aF h
theorem mQ(h:x=LL):bI w x=w:=aF h
theorem mR(hL:y<LL)(h:-y<=x):bH w x=x:=aC<|JI<|Fc (Ho hL) h
theorem lj(hL:y<LL)(h:x<=y):bI w x=x:=aC<|Oc<|E7 h hL
theorem tK(hL:y<LL)(hf:y<w)(E:iZ y x)(hy:iZ y u)(h:x<=u):bH w x<=bH w u:=by
 refine hy.elim (λa=>?_) λa=>?_
 .refine E.elim (λex=>?_) λex=>?_;.exact ex▸a▸Gv _
  .exact aJ (EC ex.1 h)<|KC.mpr<|a▸Ho hL
 .rw[mR hL a.1];refine E.elim (λex=>?_) λex=>?_;.exact pe ex▸EC (GR<|Fy hf) a.1
  .exact(mR hL ex.1).symm▸h
theorem tL(hL:y<LL)(hf:y<w)(E:i3 y x)(hy:i3 y u)(h:x<=u):bI w x<=bI w u:=by
 refine E.elim (λex=>?_) λex=>?_
 .refine hy.elim (λa=>?_) λa=>?_;.exact ex▸a▸Gv _
  .exact aJ (EC h a.2)<|KC.mpr<|ex▸hL
 .rw[lj hL ex.2];refine hy.elim (λa=>?_) λa=>?_;.exact mQ a▸EC ex.2 (Fy hf)
  .exact(lj hL a.2).symm▸h
theorem Bl(hL:y<LL)(hf:y<w)(E:iZ y x)(hy:iZ y u):max (bH w x) (bH w u)=bH w (max x u)/\iZ y (max x u):=by
 refine(IF x u).elim (λh=>?_) λh=>?_;.exact(Gr h).symm▸(Gr<|tK hL hf E hy h).symm▸⟨rfl,hy⟩
 .exact(G8 h).symm▸(G8<|tK hL hf hy E h).symm▸⟨rfl,E⟩
theorem Bm(hL:y<LL)(hf:y<w)(E:i3 y x)(hy:i3 y u):min (bI w x) (bI w u)=bI w (min x u)/\i3 y (min x u):=by
 refine(IF x u).elim (λh=>?_) λh=>?_;.exact(GU h).symm▸(GU<|tL hL hf E hy h).symm▸⟨rfl,E⟩
 .exact(GD h).symm▸(GD<|tL hL hf hy E h).symm▸⟨rfl,hy⟩
theorem Bn(hL:y<LL)(hf:y<w)(E:iZ y x):cl y (bH w x)=x:=by
 refine E.elim (λe=>?_) λe=>?_;.rw[pe e,k9<|Ho hf,e]
 .rw[mR hL e.1,k_<|FC.mpr e.1,GU e.2]
theorem Bo(hL:y<LL)(hf:y<w)(E:i3 y x):ch y (bI w x)=x:=by
 refine E.elim (λe=>?_) λe=>?_;.rw[mQ e,la hf,e]
 .rw[lj hL e.2,lb<|FC.mpr e.2,G8 e.1]
theorem Bp(h0:0<=y)(hL:y<LL)(hf:y<w)(E:iZ y x)(hy:i3 y u):bI w u<bH w x↔u<x:=by
 have a:∀{p x u},y<p->x=-p\/x<=y->u=p\/-y<=u->x=-p\/u=p->¬u<x:=by
  intro p x u hb E hy h;have J:=Fy hb;have L:-p<=p:=nb<|EC h0 J;refine FC.mpr<|h.elim (λe=>?_) λe=>?_;.subst e;exact hy.elim (λe=>e▸L) λq=>EC (GR J) q
  .subst e;exact E.elim (λe=>e▸L) λq=>EC q J
 refine E.elim (λe=>?_) λe=>?_
 .have d:bH w x=-w:=pe e;refine iff_of_false (a hf (.inl d) ?_<|.inl d)<|a hL (.inl e) (hy.imp_right OY)<|.inl e;refine hy.elim (λe'=>?_) λe'=>?_;.exact .inl<|mQ e'
  .exact(lj hL e'.2).symm▸.inr e'.1
 .rw[mR hL e.1];refine hy.elim (λe'=>?_) λe'=>?_;.have d:bI w u=w:=mQ e';exact iff_of_false (a hf (.inr e.2) (.inl d)<|.inr d)<|a hL (.inr e.2) (.inl e')<|.inr e'
  .rw[lj hL e'.2]
theorem Bq(h0:0<=y)(hL:y<LL)(hf:y<w)(E:b1 y<|j' (a,hi))(hy:b1 y<|j' (D,Q)):(if min (bI w hi) (bI w Q)<max (bH w a) (bH w D)then none else cY y (max (bH w a)<|bH w D)<|min (bI w hi)<|bI w Q)=iQ (j' (a,hi)) (j' (D,Q)):=by
 have e1:=Bl hL hf E.2.1 hy.2.1;have e2:=Bm hL hf E.2.2 hy.2.2;show _=if min hi Q<max a D then none else j' (max a D,min hi Q);rw[e1.1,e2.1];have c:=Bp h0 hL hf e1.2 e2.2;by_cases h:min hi Q<max a D;.rw[aF h,aF<|c.mpr h]
 .rw[aC h,aC<|mt c.mp h];unfold cY;rw[Bn hL hf e1.2,Bo hL hf e2.2]
theorem Br(hm:y<=9)(h0:2<=y)(hf:2*y<w/\w<2000)(g:H d=j' (.inst 1 dx [(9,.int y),(10,.int w)])){x u:Option<|Int×Int}(E:b1 y x)(hy:b1 y u)(q:C (b'<|iQ x u) H):CN (G+4) 8 [.ref d,b' x,b' u] H C:=by
 have m:0<=y:=EC dd h0;have hL:y<LL:=by show y<1000000;exact E7 ‹_› dd
 refine a6 (fn:=p_) rfl rfl<|bA<|fC ?_;by_cases f:x=eL;.have e:b' x=.none:=hl.mpr f;rw[f,Bj hL hy]at q;exact e.symm▸f5 (λP j=>ac rfl j) (e7<|a1<|aU<|bZ<|f5 (λP j=>ac rfl j)<|a1<|ac rfl q)
 refine f6 (v:=b' x) (λP j=>ac rfl j) (λe=>f<|hl.mp e)<|e8<|iY ?_;by_cases b:u=eL;.have e:b' u=.none:=hl.mpr b;rw[b,Bk hL E]at q;exact e.symm▸f5 (λP j=>ac rfl j) (e7<|a1<|aU<|bZ<|f6 (v:=b' x) (λP j=>ac rfl j) (λe=>f<|hl.mp e)<|a3<|ac rfl q)
 refine f6 (v:=b' u) (λP j=>ac rfl j) (λe=>b<|hl.mp e)<|e8<|a3<|bA<|aW<|aG<|bO<|ap<|ac rfl<|ap<|ac rfl<|aH<|Ba (ci dd) (λv hv=>?_) (λaI=>a1<|aU<|aG ?_) λM=>a3 ?_
 .rcases EG.mp hv with rfl|hv;.exact mN x
  .exact ta.mp hv▸mN u
 .have:iQ x u=none:=by
   refine(EG.mp aI).elim (λh=>?_) λh=>?_;.exact(li h.symm).symm▸rfl
   .rw[li (ta.mp h).symm];induction x<;>rfl
  rw[this]at q;exact q
 .clear f;obtain _|⟨a,hi⟩:=x;.exact aJ Eu M
  .obtain _|⟨D,Q⟩:=u;.exact aJ (Ev _<|ta.mpr rfl) M
   refine b4<|bO<|ap<|bE rfl g rfl rfl<|ap<|ac rfl<|aH<|o_ g<|ap<|bE rfl g rfl rfl<|ap<|ac rfl<|aH<|o_ g<|aH ⟨rfl,⟨rfl,rfl,⟨rfl,rfl,rfl,?_⟩⟩⟩;refine aU<|bE rfl g rfl rfl<|ap<|f0<|ap<|ac rfl<|ap<|ac rfl<|aH<|gV<|ap<|f0<|ap<|ac rfl<|ap<|ac rfl<|aH<|gV<|aH<|lg hm m g ?_;show C (b'<|if min (bI w hi) (bI w Q)<max (bH w a) (bH w D)then none else cY y (max (bH w a)<|bH w D)<|min (bI w hi)<|bI w Q) H;exact Bq m hL (E7 (m2 m) hf.1) E hy▸q
set_option tactic.hygienic true in
theorem Bs(h:b' x=b' u):x=u:=by
 by_cases f:x=eL;.rw[f]at h⊢;exact(hl.mp<|h.symm.trans<|hl.mpr rfl).symm
 by_cases b:u=eL;.rw[b]at h;exact aJ (hl.mp<|h.trans<|hl.mpr rfl) f
 match x,u with
 |none,u=>exact(li h.symm).symm|some x,none=>exact li h|some (a,hi),j' (D,Q)=>
  have nx:¬(a=-LL/\hi=LL):=λe=>f<|e.1.symm▸e.2.symm▸rfl;have i:¬(D=-LL/\Q=LL):=λe=>b<|e.1.symm▸e.2.symm▸rfl;change(if _ then _ else _)=if _ then _ else _ at h;rw[aC nx,aC i]at h;injection h with h;injection h with J h;injection h with L _;have e1:a=D:=by
   unfold f3 at J;split at J<;>split at J;.next d p=>rw[d,p]
   .cases J
   .cases J
   .injection J
  have e2:hi=Q:=by
   unfold f4 at L;split at L<;>split at L;.next d p=>rw[d,p]
   .cases L
   .cases L
   .injection L
  rw[e1,e2]
theorem Bt(hm:y<=9)(h0:2<=y)(hf:2*y<w/\w<2000):KAna (oW y) b' 1 [(9,.int y),(10,.int w)]where
 cm:=tj hm h0
 inj _ _ h:=Bs h
 top:=rfl
 pure _:=mN _
 ah:=rfl
 nf:=⟨rfl,rfl⟩
 fx:=⟨7,rfl,λG d dx H C r z g hl E q=>Bh hm h0 hf g hl E q⟩
 jn:=⟨8,rfl,λG d dx H C x u g E hy q=>Br hm h0 hf g E hy q⟩
end
def dG:Fg->V|.top=>.none|.ah=>hS|.num k=>.int k
section
variable{l:Int}
theorem lm(h:dG x=dG u):x=u:=by cases x<;>cases u<;>first|rfl|(cases h;done)|(injection h with h;rw[h])
theorem ln(x:Fg):bs<|dG x:=by
 induction x;.exact .none _
 .exact .str _ _ dd
 .exact .int _ _
theorem gv(h:0<a)(q:P<|.int<|i%a):fd H .mod (.int i) (.int a) P:=⟨h,q⟩
theorem mS(h:∀c∈r,c<128):bs<|.tup [.str r,.int k]:=.tup _ _ λx E=>by
 rcases EG.mp E with rfl|E;.exact .str _ _ h
 .exact ta.mp E▸.int _ _
theorem tM(r:Sh):V.tup [.str<|a7 r,.int (r.ar:Nat)]∈[V.tup [.str [97,100,100],.int 2],V.tup [.str [109,117,108],.int 2],V.tup [.str [110,101,103],.int 1]]↔r=.un EF\/∃p,r=.bi p:=by
 have inj:∀{t}{k},V.tup [.str<|a7 r,.int (r.ar:Nat)]=V.tup [.str<|a7 t,.int k]->r=t:=λ{t k}e=>by injection e with e;injection e with e _;injection e with e;exact jz e
 constructor
 .intro h;refine(EG.mp h).elim (λe=>?_) λh=>?_;.exact .inr ⟨EF,inj (t:=.bi EF) e⟩
  .refine(EG.mp h).elim (λe=>?_) λh=>?_;.exact .inr ⟨Do,inj (t:=.bi Do) e⟩
   .exact .inl<|inj (t:=.un EF)<|ta.mp h
 .intro s;clear inj;obtain(rfl|⟨p,rfl⟩):=s;.exact Ev _<|Ev _<|ta.mpr rfl
  .induction p;.exact Eu
   .exact Ev _ Eu
theorem tN(z:List Fg):∀u∈z.map dG,bs u:=λu hy=>by refine aA (EO.mp hy) λx d s=>?_;clear hy;subst s;exact ln x
theorem mT{x:Fg}{z:List Fg}:dG x∈z.map dG↔x∈z:=⟨λh=>by refine aA (EO.mp h) λu hy e=>?_;exact lm e▸hy,λh=>Fx h⟩
theorem Bu{ab:CW}{m:aL}{r:Sh}{z:List Fg}{Kk:Bool->Hp->Prop}(h0:m 0=j' (.str<|a7 r))(h5:m 5=j' (.lst<|z.map dG))(hl:z.length=r.ar)(b:r.ar<=2)(q:.top∈z\/¬(r=.un EF\/∃p,r=.bi p)->Kk Do H)(q2:.top∉z->(r=.un EF\/∃p,r=.bi p)->Kk EF H):bS tab ab (.bo EF<|.cons (.cmp .isIn (.k .none)<|.v 5)<|.cons (.cmp .notIn (.tup<|.cons (.v 0)<|.cons (.len<|.v 5) .nil)<|.tup<|.cons (.tup<|.cons (.k<|.str [97,100,100])<|.cons (.k<|.int 2) .nil)<|.cons (.tup<|.cons (.k<|.str [109,117,108])<|.cons (.k<|.int 2) .nil)<|.cons (.tup<|.cons (.k<|.str [110,101,103])<|.cons (.k<|.int 1) .nil) .nil) .nil) m H Kk:=by
 refine fC<|aW<|aG<|ac h5<|iU (.none _) (tN z) (λaI=>e7<|q<|.inl<|mT.mp aI) λM=>?_;refine e8<|iY<|aW<|bO<|ap<|ac h0<|ap<|dt<|ac h5<|gU ?_<|aH<|bO<|ap<|bO<|ap<|aG<|ap<|aG<|aH<|ap<|bO<|ap<|aG<|ap<|aG<|aH<|ap<|bO<|ap<|aG<|ap<|aG<|aH<|aH ?_;.rw[Ex,hl];exact ED b dd
 rw[Ex,hl];refine Bb (mS<|dP r) (λu hy=>?_) (λaI=>e8<|q2 (λh=>M<|mT.mpr h)<|(tM r).mp aI) λaU=>e7<|q<|.inr λh=>aU<|(tM r).mpr h;rcases EG.mp hy with rfl|hy;.exact mS dd
 .rcases EG.mp hy with rfl|hy;.exact mS dd
  .exact ta.mp hy▸mS dd
def pg:XB:=match jb.body with|.cons _ o=>o|_=>.nil
def Bv:XB:=match jb.body with|.cons _<|.cons _<|.cons _ o=>o|_=>.nil
abbrev mU(d:Nat)(r:Sh)(z:List Fg):aL:=fo [3,0,5] [.ref d,.str<|a7 r,.lst<|z.map dG]
theorem tO{z:List Fg}(hl:z.length=r.ar)(b:r.ar<=2)(e:.top∈z\/¬(r=.un EF\/∃p,r=.bi p)->C .none H)(a:.top∉z->(r=.un EF\/∃p,r=.bi p)->.ah∈z->C hS H)(f:.top∉z->(r=.un EF\/∃p,r=.bi p)->.ah∉z->aV tab (CN G) Bv (mU d r z) H (fD C)):aV tab (CN G) pg (mU d r z) H<|fD C:=bA<|Bu rfl rfl hl b (λh=>a1<|aU<|aG<|e h) λJ L=>a3<|bA<|aW<|aG<|ac rfl<|iU (ci dd) (tN z) (λaI=>a1<|aU<|aG<|a J L<|mT (x:=.ah).mp aI) λM=>a3<|f J L λh=>M<|mT (x:=.ah).mpr h
theorem Bw(hn:0<l)(g:H d=j' (.inst 0 dx [(4,.int l)]))(q:C (dG<|cK l (.lf i) []) H):CN (G+4) 2 [.ref d,.str<|cD i,.lst []] H C:=by refine a6 (fn:=jb) rfl rfl<|bA<|aW<|dt<|ac rfl<|gU (E8 _)<|aG<|gP<|a1<|bG<|cd<|ap<|ac rfl<|aH<|tv (G:=G+2) i ?_;change C (dG<|match dQ i with|none=>.top|some v=>.num<|v%l) H at q;cases e:dQ i with|none=>rw[e]at q;exact aU (o:=.nil)<|bZ<|f5 (λP j=>ac rfl j)<|a1<|aG q|some v=>rw[e]at q;exact aU (o:=.nil)<|bZ<|f6 (v:=.int v) (λP j=>ac rfl j) (λe=>nomatch e)<|a3<|bF<|ac rfl<|ba rfl g rfl<|gv hn q
theorem Bx(hn:0<l)(g:H d=j' (.inst 0 dx [(4,.int l)]))(q:C (dG<|cK l (.un p) [x]) H):aV tab (CN G) pg (mU d (.un p) [x]) H<|fD C:=by
 have m:=dP<|.un p;refine tO rfl (GV 1) (λh=>?_) (λc L h=>?_) λJ L b=>?_
 .have e:cK l (.un p) [x]=.top:=by
   rcases h with h|h;.rw[<-ta.mp h];induction p<;>rfl
   .induction p with|false=>exact aJ (.inl rfl) h|true=>rfl
  rw[e]at q;exact q
 .refine L.elim (λe=>?_) λar=>ax ar λan e=>?_;.cases e;rw[<-ta.mp h]at q;exact q
  .cases e
 .refine L.elim (λe=>?_) λV=>ax V λo e=>?_;.cases e;induction x with|top=>exact aJ Eu J|ah=>exact aJ Eu b|num k=>exact bA<|aW<|ac rfl<|aG<|cH (ci m) rfl<|a1<|aU<|bF<|eW<|aX<|ac rfl<|aG<|b2 (l:=0) rfl dd<|eX<|ba rfl g rfl<|gv hn q
  .cases e
theorem By(hn:0<l)(o:l<=6)(g:H d=j' (.inst 0 dx [(4,.int l)]))(E:gT l x)(hy:gT l u)(q:C (dG<|cK l (.bi p) [x,u]) H):aV tab (CN G) pg (mU d (.bi p) [x,u]) H<|fD C:=by
 have m:=dP<|.bi p;refine tO rfl (EM 2) (λh=>?_) (λJ c h=>?_) λJ c b=>?_
 .have e:cK l (.bi p) [x,u]=.top:=by
   refine h.elim (λh=>?_) λh=>?_
   .refine(EG.mp h).elim (λe=>?_) λe=>?_;.exact e▸rfl
    .exact ta.mp e▸o7 x
   .exact aJ (.inr ⟨p,rfl⟩) h
  rw[e]at q;exact q
 .have e:cK l (.bi p) [x,u]=.ah:=by induction x with
   |top=>exact aJ Eu J|ah=>induction u with|top=>exact aJ (Ev _ Eu) J|_=>rfl
   |num i=>induction u with|top=>exact aJ (Ev _ Eu) J|ah=>rfl|num a=>exact(EG.mp h).elim (λe=>nomatch e) λe=>nomatch ta.mp e
  rw[e]at q;exact q
 induction x with|top=>exact aJ Eu J|ah=>exact aJ Eu b|num k=>induction u with|top=>exact aJ (Ev _ Eu) J|ah=>exact aJ (Ev _ Eu) b|num a=>clear J b;refine bA<|aW<|ac rfl<|aG<|c3 (ci m) (ci dd) (λe=>by induction p<;>injection e with e<;>exact aJ e dd)<|a3<|aU<|bF<|bZ<|aW<|ac rfl<|aG ?_;induction p with|false=>exact cH (ci m) rfl<|a1<|bF<|aX<|ac rfl<|aG<|b2 (l:=0) rfl dd<|aX<|ac rfl<|aG<|b2 (l:=1) rfl dd<|eK<|ba rfl g rfl<|gv hn q|true=>have ha:∀{k},0<=k/\k<l->ct k:=λh=>⟨Fc dd h.1,Ie (Fc h.2 o) dd⟩;exact c3 (ci m) (ci dd) (λe=>by injection e with e;exact aJ e dd)<|a3<|bF<|aX<|ac rfl<|aG<|b2 (l:=0) rfl dd<|aX<|ac rfl<|aG<|b2 (l:=1) rfl dd<|iX (ha E) (ha hy)<|ba rfl g rfl<|gv hn q
theorem Bz(hn:0<l)(o:l<=6)(g:H d=j' (.inst 0 dx [(4,.int l)]))(hl:z.length=r.ar)(E:∀x∈z,gT l x)(q:C (dG<|cK l r z) H):CN (G+4) 2 [.ref d,.str<|a7 r,.lst<|z.map dG] H C:=by induction r with|lf i=>rw[Hr.mp hl]at q⊢;exact Bw hn g q|un p=>refine ax (hR hl) λx s=>?_;clear E hl;subst s;exact a6 (fn:=jb) rfl rfl<|bA<|aW<|dt<|ac rfl<|gU (show 1<=1000 by decide)<|aG<|gP<|a3<|Bx hn g q|bi p=>refine cL (iS hl) λx u s=>?_;clear hl;subst s;exact a6 (fn:=jb) rfl rfl<|bA<|aW<|dt<|ac rfl<|gU (show 2<=1000 by decide)<|aG<|gP<|a3<|By hn o g (E _ Eu) (E _<|Ev _ Eu) q
theorem BA(q:C (dG<|dX x u) H):CN (G+4) 3 [p,dG x,dG u] H C:=by
 refine a6 (fn:=p6) rfl rfl<|bA<|fC ?_;by_cases f:x=.top;.subst f;exact f5 (λP j=>ac rfl j)<|e7<|a1<|aU<|ac rfl q
 have nx:dG x≠.none:=λe=>f<|lm (u:=.top) e;refine f6 (v:=dG x) (λP j=>ac rfl j) nx<|e8<|iY<|aW<|ac rfl<|ac rfl ?_;by_cases a:x=u
 .subst a;have e:dX x x=x:=by induction x with|top=>rfl|ah=>rfl|num i=>exact aF rfl
  rw[e]at q;exact cH (ln x) rfl<|e7<|a1<|aU<|ac rfl q
 refine c3 (ln x) (ln u) (λe=>a<|lm e)<|e8<|a3<|aU<|bZ ?_;by_cases b:u=.top
 .subst b;have e:dX x .top=x:=by induction x<;>rfl
  rw[e]at q;exact f5 (λP j=>ac rfl j)<|a1<|ac rfl q
 .have e:dX x u=.ah:=by induction x<;>induction u<;>first|rfl|exact aJ rfl f|exact aJ rfl b|exact aC λe=>a<|by rw[e]
  rw[e]at q;exact f6 (v:=dG u) (λP j=>ac rfl j) (λe=>b<|lm (u:=.top) e)<|a3<|aG q
theorem BB(hn:0<l)(o:l<=6):KAna (o3 l) dG 0 [(4,.int l)]where
 cm:=tq hn
 inj _ _ h:=lm h
 top:=rfl
 pure _:=ln _
 ah:=rfl
 nf:=⟨rfl,rfl⟩
 fx:=⟨2,rfl,λd d d d d d d g hl E q=>Bz hn o g hl E q⟩
 jn:=⟨3,rfl,λd d d d d d d d d d q=>BA q⟩
end
def dY:Option (Int×Int)->V|none=>hS|some (a,hi)=>.tup [.int a,.int hi]
def ey:Fg->V|.top=>.str []|.ah=>hS|.num k=>.int k
section
variable{y l:Int}
theorem mV(h:dY x=dY u):x=u:=by match x,u with|none,none=>rfl|none,j' _=>cases h|some _,none=>cases h|some (d,p),j' (c,G)=>injection h with h;injection h with J h;injection h with L _;injection J with J;injection L with L;rw[J,L]
theorem lp(h:ey x=ey u):x=u:=by cases x<;>cases u<;>first|rfl|(cases h;done)|(injection h with h;rw[h];done)|(injection h with h;cases h)
theorem mW(x:Option<|Int×Int):bs<|dY x:=by match x with
 |none=>exact .str _ _ dd|some (d,p)=>
  refine .tup _ _ λx E=>?_;rcases EG.mp E with rfl|E;.exact .int _ _
  .exact ta.mp E▸.int _ _
theorem gw(x:Fg):bs<|ey x:=by
 induction x;.exact .str _ _ dd
 .exact .str _ _ dd
 .exact .int _ _
theorem mX(q:C (dY<|cY y a hi) H):CN (G+1) 46 [.int a,.int hi,.int y] H C:=by
 refine a6 (fn:=qH) rfl rfl<|aU<|bO<|ap<|bZ<|aW<|ac rfl<|eW<|ac rfl<|eX ?_;have f:∀Kk,Kk (.int<|ch y hi) H->am tab (CN G) (.ite (.cmp .gt (.v 12)<|.v 9) (.g 80 1000000)<|.mm Do<|.cons (.v 12)<|.cons (.neg<|.v 9) .nil) (fo [11,12,9] [V.int a,.int hi,.int y]) H Kk:=λKk k=>by
  refine bZ<|aW<|ac rfl<|ac rfl ?_;by_cases c:y<hi;.rw[la c]at k;exact k7 c<|a1<|g9 k
  .rw[lb c]at k;exact k8 c<|a3<|f0<|ap<|ac rfl<|ap<|eW<|ac rfl<|eX<|aH<|gV k
 by_cases c:a< -y;.rw[show cY y a hi=j' (-LL,ch y hi)by unfold cY;rw[k9 c]]at q;exact jH c<|a1<|eW<|g9<|eX<|ap<|f _<|aH q
 .rw[show cY y a hi=j' (min a y,ch y hi)by unfold cY;rw[k_ c]]at q;exact mG c<|a3<|f0<|ap<|ac rfl<|ap<|ac rfl<|aH<|gV<|ap<|f _<|aH q
theorem tP(h:dQ i=j' v):gG (cD i)=j' v:=by revert h;exact sz i (λh=>aP h) (λh=>aP h) (λh=>EA h▸rfl) (λh=>EA h▸rfl) (λh=>EA h▸rfl) (λh=>EA h▸rfl) λh=>EA h▸rfl
theorem tQ(i:Fin 7):d1 (cD i) [120,121]=(dQ i).isNone:=by
 have:∀i,d1 (cD i) [120,121]=(dQ i).isNone:=by decide
 exact this i
theorem BC(q:P<|d1 r t):bK H .isIn (.str r) (.str t) P:=q
theorem BD(q:P !d1 r t):bK H .notIn (.str r) (.str t) P:=q
theorem jM{α:Type}{w:α->V}{z:List α}(h:∀x,PureN 8<|w x):bs<|.lst<|z.map w:=.lst _ _ λu hy=>by refine aA (EO.mp hy) λx d s=>?_;clear hy;subst s;exact h x
theorem pi(x:Option<|Int×Int):PureN 8<|dY x:=by match x with
 |none=>exact .str _ _ dd|some (d,p)=>
  refine .tup _ _ λx E=>?_;rcases EG.mp E with rfl|E;.exact .int _ _
  .exact ta.mp E▸.int _ _
theorem tR(x:Fg):PureN 8<|ey x:=by
 induction x;.exact .str _ _ dd
 .exact .str _ _ dd
 .exact .int _ _
theorem BE{d i a k m:Int}(h:∀x∈[i,a,k,m],d<=x)(y:d∈[i,a,k,m]):d=min (min i a) (min k m):=by
 refine Ip (Gt.mpr ⟨Gt.mpr ⟨h i<|by simp,h a<|by simp⟩,Gt.mpr ⟨h k<|by simp,h m<|by simp⟩⟩) ?_;simp only[EG,Ez,or_false]at y;clear h;rcases y with rfl|rfl|rfl|rfl;.exact EC (FT _ _)<|FT _ _
 .exact EC (FT _ _)<|FO _ _
 .exact EC (FO _ _)<|FT _ _
 .exact EC (FO _ _)<|FO _ _
theorem BF{d i a k m:Int}(h:∀x∈[i,a,k,m],x<=d)(y:d∈[i,a,k,m]):d=max (max i a) (max k m):=by
 refine Ip ?_<|GC.mpr ⟨GC.mpr ⟨h i<|by simp,h a<|by simp⟩,GC.mpr ⟨h k<|by simp,h m<|by simp⟩⟩;simp only[EG,Ez,or_false]at y;clear h;rcases y with rfl|rfl|rfl|rfl;.exact EC (FU _ _)<|FU _ _
 .exact EC (FP _ _)<|FU _ _
 .exact EC (FU _ _)<|FP _ _
 .exact EC (FP _ _)<|FP _ _
@[elab_as_elim]theorem BG{α:Type}{P:List α->Prop}{z:List α}(h:z.length=4)(k:∀x u M A,P [x,u,M,A]):P z:=by induction z with|nil=>exact Ja h|cons x z=>induction z with|nil=>exact Ja<|Hw h|cons u z=>exact jF (P:=λz=>P<|x::u::z) (Hw<|Hw h)<|k x u
theorem BH{js:List Int}(h:hC [i,a,k,m] js):∃j q,js=[min (min i a)<|min k m,j,q,max (max i a)<|max k m]:=by
 refine aN h λpm st=>?_;have hl:=pm.length_eq;revert pm st;refine BG hl λd p c e pm st=>?_
 .have le:∀x∈[d,p,c,e],d<=x/\x<=e:=λx E=>by
   simp only[If,EG,Ez,or_false,forall_eq_or_imp,forall_eq]at st;refine bM st λs z2 h6 G=>aZ s λJ L b=>aN z2 λh4 h5=>?_;simp only[EG,Ez,or_false]at E;clear pm st s;rcases E with rfl|rfl|rfl|rfl;.exact⟨Gv _,b⟩
   .exact⟨J,h5⟩
   .exact⟨L,h6⟩
   .exact⟨b,Gv _⟩
  exact h1 p c<|by rw[<-BE (λx E=>(le x<|pm.mem_iff.mpr E).1)<|pm.mem_iff.mp<|by simp,<-BF (λx E=>(le x<|pm.mem_iff.mpr E).2)<|pm.mem_iff.mp<|by simp]
theorem BI(h:is.length<64)(q:∀js,hC is js->Kk (.lst<|js.map V.int) H):md H (.lst<|is.map V.int) Kk:=by show av (ca _) _;rw[mc];exact⟨h,q⟩
theorem tS(hm:y<=9)(h:b1 y<|j' (a,hi)):ct a/\ct hi:=aZ h λ_ L b=>⟨mO hm<|L.imp id .inr,mO hm<|.inr b⟩
theorem BJ(hm:y<=9){z:List<|Option<|Int×Int}(hl:z.length=r.ar)(E:∀x∈z,b1 y x)(q:C (dY<|eM y r z) H):CN (G+3) 47 [.str<|a7 r,.lst<|z.map dY,.int y] H C:=by
 have b:=ci<|dP r;refine a6 (fn:=qI) rfl rfl<|bA<|aW<|aG<|ac rfl<|iU (ci dd) (λu hy=>?_) (λaI=>a1<|aU<|aG ?_) λM=>a3 ?_;.refine aA (EO.mp hy) λx d s=>?_;clear hy;subst s;exact mW x
 .refine aA (EO.mp aI) λx n e=>?_;have:x=none:=mV (u:=none) e;clear e;subst this;have e:eM y r z=none:=by induction r with|lf i=>rw[Hr.mp hl]at n;exact(Ez n).elim|un p=>revert n;refine iR hl λx n=>ta.mp n▸rfl|bi p=>revert n;refine jF hl λx u n=>Or.elim (EG.mp n) (λe=>e▸rfl) λe=>?_;rw[<-ta.mp e];induction x<;>rfl
  rw[e]at q;exact q
 have I:∃b:List<|Int×Int,z=b.map some:=by clear q hl E;induction z with|nil=>exact⟨[],rfl⟩|cons x z ih=>refine ax (ih λh=>M<|Ev _ h) λb e=>?_;induction x with|none=>exact aJ Eu M|some j=>exact⟨j::b,e▸rfl⟩
 refine ax I λf s=>?_;clear I;subst s;rw[Ex]at hl;have ok:∀j∈f,b1 y<|j' j:=λj hp=>E _<|Fx hp;have L:(f.map j').map dY=f.map λj=>dY<|j' j:=Fb.trans rfl;rw[L];have no:∀{t:List Nat}{o:XB}{m:aL}{p:XB}{A:Fl->aL->Hp->Prop},m 0=j' (.str<|a7 r)->(∀c∈t,c<128)->a7 r≠t->aV tab (CN<|G+2) o m H A->aV tab (CN<|G+2) (.cons (.be (.cmp .eq (.v 0)<|.k<|.str t) p .nil) o) m H A:=λ{t o m p A}h0 ht K k=>bA<|aW<|ac h0<|aG<|c3 b (ci ht) (λe=>K<|by injection e)<|a3 k;induction r with
 |lf i=>
  have e:f=[]:=Hr.mp hl;clear E M ok L hl;subst e;have ne:∀t,t∈[[110,101,103],[97,100,100],[109,117,108]]->cD i≠t:=by
   have:∀i:Fin 7,∀t,t∈[[110,101,103],[97,100,100],[109,117,108]]->cD i≠t:=by decide
   exact this i
  refine bA<|jI<|aW<|ac rfl<|fW<|aH<|cH (jM (w:=λj:Int×Int=>dY<|j' j) λj=>pi _) rfl<|a1<|mI<|aW<|ac rfl<|aG<|BD ?_;change C (dY<|match dQ i with|none=>eL|some v=>cY y v v) H at q;rw[show d1 (a7<|.lf i) [120,121]=(dQ i).isNone from tQ i];cases e:dQ i with|none=>rw[e]at q;refine show(if EF=Do then _ else _:Prop)from a3<|a3<|no rfl dd (ne _ dd)<|no rfl dd (ne _ dd)<|no rfl dd (ne _ dd)<|aU<|bO<|ap<|eW<|g9<|eX<|ap<|g9<|aH q|some v=>rw[e]at q;have J:∀Kk:V->Hp->Prop,Kk (.int v) H->am tab (CN<|G+2) (.toInt<|.v 0) (fo [0,31,9] [V.str<|a7<|.lf i,.lst<|([]:List<|Int×Int).map λj=>dY<|j' j,.int y]) H Kk:=λKk k=>o9 (ac rfl<|by show av (gG<|cD i) _;exact tP e▸k);exact show(if Do=Do then _ else _:Prop)from a1<|a1<|aU<|cd<|ap<|J _<|ap<|J _<|ap<|ac rfl<|aH<|mX q
 |un p=>revert ok q;refine iR hl λ⟨a,hi⟩ok q=>?_;.refine bA<|jI<|aW<|ac rfl<|fW<|aH<|c3 (jM (w:=λj:Int×Int=>dY<|j' j) λj=>pi _) (.lst _ _ λd h=>(Ez h).elim) (λe=>by injection e with e;cases e)<|a3<|a3 ?_;induction p with|false=>refine bA<|aW<|ac rfl<|aG<|cH b rfl<|a1<|aU<|cd<|ap<|eW ?_;exact aX<|aX<|ac rfl<|aG<|b2 (l:=0) rfl dd<|aG<|fF (l:=1) rfl dd<|eX<|ap<|eW<|aX<|aX<|ac rfl<|aG<|b2 (l:=0) rfl dd<|aG<|fF (l:=0) rfl dd<|eX<|ap<|ac rfl<|aH<|mX q|true=>exact no rfl dd dd<|no rfl dd dd<|no rfl dd dd<|aU<|bO<|ap<|eW<|g9<|eX<|ap<|g9<|aH q
 |bi p=>revert ok q;refine jF hl λ⟨a,hi⟩⟨D,Q⟩ok q=>?_;.have dB:=tS hm<|ok _ Eu;have d0:=tS hm<|ok _<|Ev _<|ta.mpr rfl;refine bA<|jI<|aW<|ac rfl<|fW<|aH<|c3 (jM (w:=λj:Int×Int=>dY<|j' j) λj=>pi _) (.lst _ _ λd h=>(Ez h).elim) (λe=>by injection e with e;cases e)<|a3<|a3 ?_;induction p with|false=>refine no rfl dd dd<|bA<|aW<|ac rfl<|aG<|cH b rfl<|a1<|aU<|cd<|ap<|bF ?_;refine aX<|aX<|ac rfl<|aG<|b2 (l:=0) rfl dd<|aG<|fF (l:=0) rfl dd<|aX<|aX<|ac rfl<|aG<|b2 (l:=1) rfl dd<|aG<|fF (l:=0) rfl dd<|eK<|ap<|bF ?_;exact aX<|aX<|ac rfl<|aG<|b2 (l:=0) rfl dd<|aG<|fF (l:=1) rfl dd<|aX<|aX<|ac rfl<|aG<|b2 (l:=1) rfl dd<|aG<|fF (l:=1) rfl dd<|eK<|ap<|ac rfl<|aH<|mX q|true=>refine no rfl dd dd<|no rfl dd dd<|bA<|aW<|ac rfl<|aG<|cH b rfl<|a1 ?_;refine bG<|jy<|tC (λP j=>aX<|ac rfl<|aG<|b2 (l:=0) rfl dd j) (λv P j=>aX<|ac rfl<|aG<|b2 (l:=1) rfl dd j) dB.1 dB.2 d0.1 d0.2<|BI (is:=[a*D,a*Q,hi*D,hi*Q]) (show 4<64 by decide) λjs hj=>?_;refine cL (BH hj) λj o s=>?_;clear hj;subst s;exact aU<|cd<|ap<|aX<|ac rfl<|aG<|b2 (l:=0) rfl dd<|ap<|aX<|ac rfl<|aG<|b2 (l:=3) rfl dd<|ap<|ac rfl<|aH<|mX q
end
section
variable{y l:Int}
theorem BK(q:C (dY<|iQ x u) H):CN (G+3) 48 [dY x,dY u] H C:=by refine a6 (fn:=qJ) rfl rfl<|bA<|fC<|aW<|ac rfl<|aG ?_;match x,u,q with|none,_,q=>exact cH (ci dd) rfl<|e7<|a1<|aU<|aG q|some x,u,q=>refine c3 (mW _) (ci dd) (λe=>nomatch mV (u:=none) e)<|e8<|iY<|aW<|ac rfl<|aG ?_;match x,u,q with
  |x,none,q=>exact cH (ci dd) rfl<|e7<|a1<|aU<|aG q|(d,p),j' (c,e),q=>
   refine c3 (mW _) (ci dd) (λe=>nomatch mV (u:=none) e)<|e8<|a3 ?_;refine b4<|bO<|ap<|f0<|ap<|aX<|ac rfl<|aG<|fF (l:=0) rfl dd<|ap<|aX<|ac rfl<|aG<|fF (l:=0) rfl dd<|aH<|gV<|ap<|f0<|ap<|aX<|ac rfl<|aG<|fF (l:=1) rfl dd<|ap<|aX<|ac rfl<|aG<|fF (l:=1) rfl dd<|aH<|gV<|aH<|gS ?_;refine aU<|bZ<|aW<|ac rfl<|ac rfl ?_;have q:C (dY<|if min p e<max d c then none else j' (max d c,min p e)) H:=q;by_cases h:min p e<max d c;.rw[aF h]at q;exact k7 h<|a1<|aG q
   .rw[aC h]at q;exact k8 h<|a3<|bO<|ap<|ac rfl<|ap<|ac rfl<|aH q
theorem BL(q:C (ey<|dX x u) H):CN (G+3) 50 [ey x,ey u] H C:=by
 have i:bs<|.str []:=ci λd h=>(Ez h).elim;have ne:∀{x},x≠.top->ey x≠.str []:=λh e=>h<|lp (u:=.top) e;refine a6 (fn:=qL) rfl rfl<|bA<|fC<|aW<|ac rfl<|aG ?_;have fin:∀{m},m 7=j' (ey x)->m 8=j' (ey u)->x=.top\/u=.top\/x=u->am tab (CN<|G+2) (.ite (.cmp .eq (.v 8)<|.k<|.str []) (.v 7)<|.v 8) m H λv H=>C v H:=λ{m}h7 E h=>by
  refine bZ<|aW<|ac E<|aG ?_;by_cases b:u=.top
  .have e:dX x u=x:=by rw[b];induction x<;>rfl
   rw[e]at q;exact cH (gw u) (b▸rfl)<|a1<|ac h7 q
  .have e:dX x u=u:=by
    rcases h with h|h|h;.exact h▸rfl
    .exact aJ h b
    .rw[h];induction u<;>first|rfl|exact aF rfl
   rw[e]at q;exact c3 (gw u) i (ne b)<|a3<|ac E q
 by_cases f:x=.top;.exact cH (gw x) (f▸rfl)<|e7<|a1<|aU<|fin rfl rfl<|.inl f
 refine c3 (gw x) i (ne f)<|e8<|Bi<|aW<|ac rfl<|aG ?_;by_cases b:u=.top;.exact cH (gw u) (b▸rfl)<|e7<|a1<|aU<|fin rfl rfl<|.inr<|.inl b
 refine c3 (gw u) i (ne b)<|e8<|iY<|aW<|ac rfl<|ac rfl ?_;by_cases a:x=u;.exact cH (gw x) (a▸rfl)<|e7<|a1<|aU<|fin rfl rfl<|.inr<|.inr a
 have e:dX x u=.ah:=by induction x<;>induction u<;>first|rfl|exact aJ rfl f|exact aJ rfl b|exact aC λe=>a<|by rw[e]
 rw[e]at q;exact c3 (gw x) (gw u) (λe=>a<|lp e)<|e8<|a3<|aU<|aG q
theorem BM(hn:0<l)(o:l<=6)(hl:z.length=r.ar)(E:∀x∈z,gT l x)(q:C (ey<|cK l r z) H):CN (G+3) 49 [.str<|a7 r,.lst<|z.map ey,.int l] H C:=by
 have m:=dP r;have b:=ci m;have I:∀u∈z.map ey,bs u:=λu hy=>by refine aA (EO.mp hy) λx d s=>?_;clear hy;subst s;exact gw x
 refine a6 (fn:=qK) rfl rfl<|bA<|aW<|ac rfl<|fW<|aH ?_;by_cases hz:∃i,r=.lf i;.refine ax hz λi s=>?_;clear hz;clear m b;subst s;have e:z=[]:=Hr.mp hl;clear E I hl;subst e;refine cH (jM tR) rfl<|a1<|aU<|bZ<|aW<|ac rfl<|aG<|BC ?_;change C (ey<|match dQ i with|none=>.top|some v=>.num<|v%l) H at q;rw[show d1 (a7<|.lf i) [120,121]=(dQ i).isNone from tQ i];cases e:dQ i with|none=>rw[e]at q;exact show(if Do=Do then _ else _:Prop)from a1<|aG q|some v=>rw[e]at q;refine show(if EF=Do then _ else _:Prop)from a3<|bF<|o9<|ac rfl ?_;show av (gG<|cD i) _;rw[tP e,c6];exact ac rfl<|gv hn q
 have h0:z≠[]:=by intro h;rw[h]at hl;induction r with|lf i=>exact hz ⟨i,rfl⟩|un p=>cases hl|bi p=>cases hl
 refine c3 (jM tR) (.lst _ _ λd h=>(Ez h).elim) (λe=>h0<|by injection e with e;exact List.map_eq_nil_iff.mp e)<|a3<|bA<|fC<|aW<|aG<|ac rfl<|iU (ci λd h=>(Ez h).elim) I (λaI=>?_) λM=>?_
 .refine aA (EO.mp aI) λx n e=>?_;have:x=.top:=lp (u:=.top) e;clear e;subst this;have e:cK l r z=.top:=by induction r with|lf i=>exact aJ ⟨i,rfl⟩ hz|un p=>revert n;refine iR hl λx n=>?_;rw[<-ta.mp n];induction p<;>rfl|bi p=>revert n;refine jF hl λx u n=>Or.elim (EG.mp n) (λe=>e▸rfl) λe=>?_;rw[<-ta.mp e];induction x<;>rfl
  rw[e]at q;exact e7<|a1<|aU<|aG q
 have D:∀x∈z,x≠.top:=λx n e=>M<|show V.str []=ey x by rw[e];rfl▸Fx n;refine e8<|iY<|aW<|ac rfl<|aG ?_;by_cases hf:r=.un Do;.clear m hz;subst hf;revert q;refine iR hl λx q=>cH b rfl<|e7<|a1<|aU<|aG q
 have hs:r=.un EF\/∃p,r=.bi p:=by induction r with
  |lf i=>exact aJ ⟨i,rfl⟩ hz|un p=>induction p with|false=>exact .inl rfl|true=>exact aJ rfl hf
  |bi p=>exact .inr ⟨p,rfl⟩
 refine c3 b (ci dd) (λe=>hf<|jz (p:=.un Do)<|by injection e)<|e8<|a3<|bA<|aW<|aG<|ac rfl<|iU (ci dd) I (λaI=>a1<|aU<|aG ?_) λM=>a3 ?_
 .refine aA (EO.mp aI) λx n e=>?_;have:x=.ah:=lp (u:=.ah) e;clear e;subst this;have e:cK l r z=.ah:=by
   clear q m b hz hf;rcases hs with rfl|⟨p,rfl⟩;.revert n;refine iR hl λx n=>ta.mp n▸rfl
   .revert n D;refine jF hl λx u D n=>?_
    .have j:=D x Eu;have n2:=D u<|Ev _<|ta.mpr rfl;refine(EG.mp n).elim (λe=>?_) λe=>?_;.clear j;subst e;induction u<;>first|rfl|exact aJ rfl n2
     .have e:=ta.mp e;subst e;induction x<;>first|rfl|exact aJ rfl j
  rw[e]at q;exact q
 have w:∀x∈z,∃k,x=.num k/\0<=k/\k<l:=λx n=>by induction x with|top=>exact aJ rfl<|D _ n|ah=>exact aJ (Fx (f:=ey) n) M|num k=>exact bm k rfl<|E _ n
 clear m hz hf;rcases hs with rfl|⟨p,rfl⟩;.revert w q;refine iR hl λx w q=>?_;.refine aA (w x<|ta.mpr rfl) λk s d=>?_;clear w;subst s;exact aU<|bF<|bZ<|aW<|ac rfl<|aG<|cH b rfl<|a1<|eW<|aX<|ac rfl<|aG<|b2 (l:=0) rfl dd<|eX<|ac rfl<|gv hn q
 .revert w q;refine jF hl λx u w q=>?_;.refine a4 (w x Eu) λk s k1 A=>?_;subst s;refine a4 (w u<|Ev _<|ta.mpr rfl) λa s J L=>?_;clear w;subst s;refine aU<|bF<|bZ<|aW<|ac rfl<|aG<|c3 b (ci dd) (λe=>by induction p<;>injection e with e<;>exact aJ e dd)<|a3<|bZ<|aW<|ac rfl<|aG ?_;induction p with|false=>exact cH b rfl<|a1<|bF<|aX<|ac rfl<|aG<|b2 (l:=0) rfl dd<|aX<|ac rfl<|aG<|b2 (l:=1) rfl dd<|eK<|ac rfl<|gv hn q|true=>have bk:ct k:=⟨Fc dd k1,Ie A<|E7 o dd⟩;have K:ct a:=⟨Fc dd J,Ie L<|E7 o dd⟩;exact c3 b (ci dd) (λe=>by injection e with e;exact aJ e dd)<|a3<|bF<|aX<|ac rfl<|aG<|b2 (l:=0) rfl dd<|aX<|ac rfl<|aG<|b2 (l:=1) rfl dd<|iX bk K<|ac rfl<|gv hn q
end
structure LAna{β:Type}(D:Dom β)(enc:β->V)(sp:Bool)(bnd_:Int):Prop where
 cm:D.Law
 inj:∀{a b},enc a=enc b->a=b
 pure:∀a,bs (enc a)top:enc D.top=if sp then .tup [.int<|-LL,.int LL]else .str []ah:enc D.ah=hS
 fx:∀d H Q s xs,xs.length=s.ar->(∀x∈xs,D.ok x)->Q (enc<|D.F s xs) H->CN (d+3) (if sp then 47 else 49) [.str<|a7 s,.lst<|xs.map enc,.int bnd_] H Q
 jn:∀d H Q x y,Q (enc<|D.meet x y) H->CN (d+3) (if sp then 48 else 50) [enc x,enc y] H Q
theorem BN(hm:y<=9)(h0:2<=y):LAna (oW y) dY Do y where
 cm:=tj hm h0
 inj:=mV
 pure:=mW
 top:=rfl
 ah:=rfl
 fx _ _ _ _ _ hl E q:=BJ hm hl E q
 jn _ _ _ _ _ q:=BK q
theorem BO(hn:0<l)(o:l<=6):LAna (o3 l) ey EF l where
 cm:=tq hn
 inj:=lp
 pure:=gw
 top:=rfl
 ah:=rfl
 fx _ _ _ _ _ hl E q:=BM hn o hl E q
 jn _ _ _ _ _ q:=BL q
section
variable{G:Nat}{H:Hp}{C:V->Hp->Prop}{S:List Tm}{h:Tm->Nat}
def cv(S:List Tm)(h:Tm->Nat):List<|V×V:=S.map λt=>(t.toV,.int (h t:Nat))
theorem tT:∀{S},t∈S->dget (cv S h) t.toV=j' (.int (h t:Nat))
 |aj::S,ht=>by
  show(if aj.toV=t.toV then j'<|V.int (h aj:Nat)else dget (cv S h) t.toV)=_;by_cases c:aj=t;.rw[c,aF rfl]
  .refine(aC λe=>c<|kN e).trans<|tT<|(EG.mp ht).resolve_left λe=>c e.symm
theorem mY{t:Tm}(hd:t.dp<=2):gF t.toV:=⟨⟨_,iE t⟩,zC<|ER ‹_› dd⟩
theorem tU{t:Tm}(hd:t.dp<=2):bs t.toV:=oz<|ER ‹_› dd
theorem BP(z:∀t∈S,t.dp<=2)(ht:t∈S):bD (cv S h) t.toV:=.inr ⟨mY<|z t ht,λe he=>by refine aA (EO.mp he) λaj hu s=>?_;clear he;subst s;exact mY<|z aj hu⟩
theorem tV(X:bD f k)(E:dget f k=j' v)(q:P v):fL H (.br f) k P:=⟨X,E▸q⟩
theorem hV(z:∀t∈S,t.dp<=2)(ht:t∈S)(q:P<|.int (h t:Nat)):fL H (.br<|cv S h) t.toV P:=tV (BP z ht) (tT ht) q
theorem tW(w:α->V)(a:α->Tm)(g:α->Nat):∀{as:List α}{ao:List Tm}{h0:Tm->Nat},(∀d∈as,∀kk:V->V->Hp->Prop,kk (a d).toV (.int (g d:Nat)) H->body (w d) H kk)->(∀d∈as,(a d).dp<=2)->(∀t∈ao,t.dp<=2)->(ao++as.map a).Nodup->(ao++as.map a).length<=1000->Kk (cv ao h0++as.map λd=>((a d).toV,V.int (g d:Nat))) H->ei body (as.map w) (cv ao h0) H Kk:=by intro v;induction v with|nil=>intro ao h0 g1 g2 g3 ad K k;rw[IE,FR]at k;exact k|cons d as m=>
  intro ao h0 hb hd ha nd hl k;have e:ao++(d::as).map a=ao++[a d]++as.map a:=by rw[FS];rfl
  have b:a d∉ao:=λhm=>(Gd.mp nd).2.2 _ hm _ Eu rfl;refine oU<|hb d Eu _ ⟨.inr ⟨mY<|hd d Eu,λe he=>?_⟩,a0 ?_,?_⟩;.refine aA (EO.mp he) λaj hu s=>?_;clear he;subst s;exact mY<|ha aj hu
  .unfold cv;rw[Ex];rw[EH]at hl;exact aE 0x1da7d0a053e853820 rfl hl
  .have hg:dget (cv ao h0) (a d).toV=none:=by
    have:∀{B},a d∉B->dget (cv B h0) (a d).toV=none:=λ{B}ab=>by induction B with|nil=>rfl|cons aj B ih=>show(if aj.toV=(a d).toV then j'<|V.int (h0 aj:Nat)else dget (cv B h0) (a d).toV)=none;refine(aC λe=>ab<|by rw[<-kN e];exact Eu).trans ?_;exact ih λh=>ab<|Ev _ h
    exact this b
   rw[ji hg];have e2:cv ao h0++[((a d).toV,V.int (g d:Nat))]=cv (ao++[a d]) λt=>if t=a d then g d else h0 t:=by dsimp only[cv];rw[Gk,FJ (f:=λt=>(t.toV,V.int (h0 t:Nat))) (g:=λt=>(t.toV,V.int ((if t=a d then g d else h0 t:Nat):Nat))) λaj hu=>by rw[aC λe':aj=a d=>b<|e'▸hu]];show _=_++[((a d).toV,V.int (if a d=a d then g d else h0<|a d:Nat))];rw[aF rfl]
   rw[e2];refine m (λx E=>hb x<|Ev _ E) (λx E=>hd x<|Ev _ E) (λt ht=>?_) (e▸nd) (e▸hl) ?_
   .refine(E1.mp ht).elim (λht=>?_) λht=>?_;.exact ha t ht
    .exact ta.mp ht▸hd d Eu
   .rw[<-e2,FS];exact k
def f7(h:Tm->Nat)(d p:Tm):Prop:=d.sh=p.sh/\d.kids.map h=p.kids.map h
theorem f7.symm(x:f7 h d p):f7 h p d:=⟨x.1.symm,x.2.symm⟩
theorem tX{ab:CW}{m:aL}{Kk:V->Hp->Prop}{t:Tm}{i:Nat}(hi:m i=j' t.toV)(a:m 76=j' (.br<|cv S h))(z:∀t∈S,t.dp<=2)(cl:∀k∈t.kids,k∈S)(k:Kk (.lst<|aM<|t.kids.map h) H):am tab ab (.comp (.sub (.v 76)<|.v 32) (.v 32) (.pl<|.d7 (.v i) 1) .c0) m H Kk:=by have l2:=gm t;rw[iE]at hi;refine c4<|ce<|fE<|ac hi<|fZ (by rw[Ex];exact ER ‹_› dd) ⟨a0<|by rw[Ex];exact ED ‹_› dd,fX Tm.toV (λx=>V.int (h x:Nat)) (λx E kY q=>aX<|ac a<|ac rfl<|hV z (cl x E) q) ?_⟩;.rw[show(t.kids.map λx=>V.int (h x:Nat))=aM (t.kids.map h)by unfold aM;rw[Fb];rfl];exact k
theorem mZ{t:Tm}{P:V->Prop}(q:P<|.str<|a7 t.sh):fL H t.toV (.int 0) P:=by rw[iE];exact fF (l:=0) rfl dd q
theorem lq(ns:List Nat):bs<|.lst<|aM ns:=jM λl=>.int _ _
theorem tY(k:am tab ab d m H λs H=>am tab ab p m H λE H=>bK H A s E λc=>if c=i then eY tab ab i (.cons e' o) m H Kk else Kk c H):eY tab ab i (.cons (.cmp A d p)<|.cons e' o) m H Kk:=k
theorem tZ(k:am tab ab d m H λs H=>am tab ab p m H λE H=>bK H A s E λc=>Kk c H):eY tab ab i (.cons (.cmp A d p) .nil) m H Kk:=k
theorem BQ(z:∀t∈S,t.dp<=2)(Q:∀k∈d.kids,k∈S)(a:∀k∈p.kids,k∈S)(q:f7 h d p->C (.bool Do) H)(q2:¬f7 h d p->C (.bool EF) H):CN (G+1) 44 [d.toV,p.toV,.br<|cv S h] H C:=by
 refine a6 (fn:=qF) rfl rfl<|aU<|oO<|tY<|aX<|ac rfl<|aG<|mZ<|aX<|ac rfl<|aG<|mZ ?_;by_cases c1:d.sh=p.sh
 .refine cH (ci<|dP _) (c1▸rfl)<|a1<|tZ<|tX rfl rfl z Q<|tX rfl rfl z a ?_;by_cases c2:d.kids.map h=p.kids.map h;.exact cH (lq _) (c2▸rfl)<|q ⟨c1,c2⟩
  .exact c3 (lq _) (lq _) (λe=>c2<|sB<|by injection e)<|q2 λx=>c2 x.2
 .exact c3 (ci<|dP _) (ci<|dP _) (λe=>c1<|jz<|by injection e)<|a3<|q2 λx=>c1 x.1
end
section
variable{h:Tm->Nat}
theorem pj(w:α->V):∀(z:List α)(l:Nat),eR l (z.map w)=(z.zipIdx l).map λj=>V.tup [.int (j.2:Nat),w j.1]:=by intro v;induction v with|nil=>intro g;exact rfl|cons x z ih=>intro l;show V.tup [.int (l:Nat),w x]::eR (l+1) (z.map w)=_;rw[ih<|l+1];rfl
theorem BR:∀{P o:List Tm},(P++o).Nodup->o.zipIdx P.length=o.map λt=>(t,ix (P++o) t):=by intro P v;induction v generalizing P with|nil=>intro g;exact rfl|cons t o m=>
  intro nd;have e:P++t::o=P++[t]++o:=by rw[FS];rfl
  have ih:=m (P:=P++[t])<|e▸nd;rw[EH,<-e]at ih;show(t,P.length)::o.zipIdx (P.length+1)=(t,ix (P++t::o) t)::_;rw[show o.zipIdx (P.length+1)=_ from ih];have a:t∉P:=λhm=>(Gd.mp nd).2.2 _ hm _ Eu rfl;have:ix (P++t::o) t=P.length:=by show NO t _=_;rw[J7,aC a,NP];exact Op _ _
  rw[this]
theorem t0(k:cO tab ab it m H λz H=>z.length<=aR/\ei (λx H kk=>bY tab ab t x (m.bh t.vars) H λl' H=>am tab ab ke l' H λkv H=>am tab ab ve l' H λn H=>kk kv n H) z [] H λf H=>C (.br f) H):am tab ab (.b8 EF ke ve t it) m H C:=k
theorem gW(hi:m i=j' (.bool p))(k:Kk p H):bS tab ab (.x<|.v i) m H Kk:=ac (ab:=ab) (C:=λv H=>av (eP v) λc=>Kk c H) hi k
theorem pk(hi:m i=j' (.lst z))(k:Kk (eR 0 z) H):cO tab ab (.enum<|.v i) m H Kk:=ac (ab:=ab) (C:=λv H=>match v with|.lst z=>Kk (eR 0 z) H|_=>False) hi k
theorem BS(hi:m i=j' (.br f))(k:Kk (f.map λe=>.tup [e.1,e.2]) H):cO tab ab (.items<|.v i) m H Kk:=ac (ab:=ab) (C:=λv H=>match v with|.br f=>Kk (f.map λe=>.tup [e.1,e.2]) H|_=>False) hi k
theorem t3{z:List V}{l:Nat}(hn:l<1000000)(hl:z.length<=1000)(q:C (.lst<|z.take l) H):o8 H (.lst z) (.int (l:Int)) C:=⟨Gh _,aB 0x3b8f424022e40afa1201160 rfl hn,a0 hl,q⟩
def cE(ag:List<|Tm×Tm):List V:=ag.map λj=>.tup [j.1.toV,j.2.toV]
noncomputable def hW(S:List Tm)(h:Tm->Nat):Nat:=(S.map h).sum
def m0(ag:List<|Tm×Tm)(h:Tm->Nat)(d p:Tm):Prop:=h d=h p\/¬((d,p)∈ag\/f7 h d p)
structure Hm(S:List Tm)(T:Tm->Tm->Prop)(h:Tm->Nat):Prop where snd:∀R,Cgr S T R->∀a b,a∈S->b∈S->h a=h b->R a b
theorem t4:V.tup [d.toV,p.toV]∈cE ag↔(d,p)∈ag:=by
 constructor;.intro hm;refine aA (EO.mp hm) λs hp he=>?_;rcases s with⟨c,e⟩;injection he with he;injection he with J he;injection he with L _;exact kN J▸kN L▸hp
 .exactλhm=>EO.mpr ⟨_,hm,rfl⟩
theorem t5{d p:Tm}(ha:d.dp<=2)(hb:p.dp<=2):bs<|.tup [d.toV,p.toV]:=.tup _ _ λx E=>by
 rcases EG.mp E with rfl|E;.exact oz<|ER ‹_› dd
 .exact ta.mp E▸oz (ER ‹_› dd)
theorem BU{T:Tm->Tm->Prop}(hm:Hm S T h){R:Tm->Tm->Prop}(n:Cgr S T R){d p:Tm}(ha:d∈S)(hb:p∈S)(Q:∀k∈d.kids,k∈S)(a:∀k∈p.kids,k∈S)(x:f7 h d p):R d p:=by
 refine n.ft ha hb x.1 ?_;have go:∀{z ys},(∀k∈z,k∈S)->(∀k∈ys,k∈S)->z.map h=ys.map h->db R z ys:=λ{z}=>by induction z with
  |nil=>intro ys _ _ e;induction ys with|nil=>trivial|cons u ys=>cases e
  |cons x z ih=>intro ys E hy e;induction ys with|nil=>cases e|cons u ys=>injection e with e1 e2;exact⟨hm.snd R n x u (E x Eu) (hy u Eu) e1,ih (λk h=>E k<|Ev _ h) (λk h=>hy k<|Ev _ h) e2⟩
 exact go Q a x.2
theorem BV{T:Tm->Tm->Prop}(hm:Hm S T h){d p:Tm}(ha:d∈S)(hb:p∈S)(K:h d≠h p)(hR:∀R,Cgr S T R->R d p):Hm S T (λt=>if h t=max (h d) (h p)then min (h d) (h p)else h t)/\hW S (λt=>if h t=max (h d) (h p)then min (h d) (h p)else h t)<hW S h:=by
 refine⟨⟨λR n x u E hy e=>?_⟩,?_⟩
 .have i:=hR R n;have a:∀M,M∈S->h M=min (h d) (h p)->R M d:=λM hz e=>by
   refine(Jm (h d)<|h p).elim (λc=>?_) λc=>?_;.rw[IZ c]at e;exact hm.snd R n M d hz ha e
   .rw[IG c]at e;exact n.trans (hm.snd R n M p hz hb e)<|n.symm i
  have hi:∀M,M∈S->h M=max (h d) (h p)->R M d:=λM hz e=>by
   refine(Jm (h d)<|h p).elim (λc=>?_) λc=>?_;.rw[Ia c]at e;exact n.trans (hm.snd R n M p hz hb e)<|n.symm i
   .rw[JB c]at e;exact hm.snd R n M d hz ha e
  by_cases f:h x=max (h d) (h p)<;>by_cases b:h u=max (h d) (h p);.exact hm.snd R n x u E hy<|f.trans b.symm
  .rw[aF f,aC b]at e;exact n.trans (hi x E f)<|n.symm<|a u hy e.symm
  .rw[aC f,aF b]at e;exact n.trans (a x E e)<|n.symm<|hi u hy b
  .rw[aC f,aC b]at e;exact hm.snd R n x u E hy e
 .refine oV (λx G=>?_) (u:=if h d=max (h d) (h p)then d else p) (by split<;>assumption) ?_
  .show(if h x=max (h d) (h p)then min (h d) (h p)else h x)<=h x;by_cases c:h x=max (h d) (h p);.rw[aF c,c];exact ED (ME _ _)<|Jb _ _
   .rw[aC c];exact EM _
  .show(if h (if h d=max (h d) (h p)then d else p)=max (h d) (h p)then min (h d) (h p)else h<|if h d=max (h d) (h p)then d else p)<h (if h d=max (h d) (h p)then d else p);by_cases c:h d=max (h d) (h p);.rw[aF c,aF c];exact aE 0xef6a08041688400f5820 rfl K c
   .rw[aC c,aF<|by exact aE 0xeda21007d688400 rfl c];exact aE 0xed430083d688400 rfl c
def MF(S:List Tm)(ag:List<|Tm×Tm)(h:Tm->Nat)(z o1 J:Option V):Prop:=z=j' (.lst<|S.map Tm.toV)/\o1=j' (.lst<|cE ag)/\J=j' (.br<|cv S h)
def MB(S:List Tm)(T:Tm->Tm->Prop)(ag:List<|Tm×Tm)(h L:Tm->Nat)(p:Bool)(k:Nat):Prop:=Hm S T L/\(p=Do->hW S L<hW S h)/\(p=EF->hW S L<=hW S h)/\(p=EF->∀i a t aj,i<k->a<i->S[i]?=j' t->S[a]?=j' aj->m0 ag L t aj)
def MI(S:List Tm)(T:Tm->Tm->Prop)(ag:List<|Tm×Tm)(H:Hp)(y:Nat)(m:aL)(H':Hp):Prop:=∃(h:Tm->Nat)(p:Bool),y=2*hW S h+p.toNat/\H'=H/\MF S ag h (m 15) (m 24) (m 76)/\m 77=j' (.bool p)/\Hm S T h/\(p=EF->∀(i a:Nat)(t aj:Tm),a<i->S[i]?=j' t->S[a]?=j' aj->m0 ag h t aj)
def MJ(S:List Tm)(T:Tm->Tm->Prop)(ag:List<|Tm×Tm)(h:Tm->Nat)(H:Hp)(as:List<|Tm×Nat)(m:aL)(H':Hp):Prop:=∃k L p,as=(S.drop k).zipIdx k/\H'=H/\MF S ag L (m 15) (m 24) (m 76)/\m 77=j' (.bool p)/\MB S T ag h L p k
def MK(S:List Tm)(T:Tm->Tm->Prop)(ag:List<|Tm×Tm)(h:Tm->Nat)(D:Tm)(k:Nat)(H:Hp)(f:List Tm)(m:aL)(H':Hp):Prop:=∃P L p,S.take k=P++f/\H'=H/\m 7=j' D.toV/\MF S ag L (m 15) (m 24) (m 76)/\m 77=j' (.bool p)/\MB S T ag h L p k/\(p=EF->∀aj∈P,m0 ag L D aj)
theorem BW{T:Tm->Tm->Prop}{ag:List<|Tm×Tm}(nd:S.Nodup)(z:∀t∈S,t.dp<=2)(cl:∀t∈S,∀k∈t.kids,k∈S)(hl:S.length<=1000)(ht:∀j∈ag,j.1.dp<=2/\j.2.dp<=2)(hT:∀R,Cgr S T R->∀d p,(d,p)∈ag->R d p)(az:∀d p,(d,p)∈ag->(p,d)∈ag)(q:∀h,Hm S T h->(∀d∈S,∀p∈S,(d,p)∈ag\/f7 h d p->h d=h p)->C (.br<|cv S h) H):CN (G+2) 45 [.lst<|S.map Tm.toV,.lst<|cE ag] H C:=by
 have aD:(([]:List Tm)++(S.zipIdx 0).map Fe).Nodup:=by rw[List.zipIdx_map_fst];exact nd
 have aL:∀u∈cE ag,bs u:=λu hy=>by refine aA (EO.mp hy) λj hp s=>?_;clear hy;subst s;exact t5 (ht j hp).1 (ht j hp).2
 have aO:(S.map Tm.toV).length<=1000:=by rw[Ex];exact hl
 refine a6 (fn:=qG) rfl rfl<|b4<|bO<|ap<|t0<|pk rfl ?_;rw[pj];refine⟨a0<|by rw[Ex,Lv];exact hl,tW (ao:=[]) (h0:=λw=>0) (λj:Tm×Nat=>V.tup [.int (j.2:Nat),j.1.toV]) Fe Prod.snd (λd w kk k=>gS<|ac rfl<|ac rfl k) (λd ha=>z _<|LQ ha) (λt h=>(Ez h).elim) aD (by rw[Ir,Ex,Lv];exact hl)<|ap<|aG<|aH<|gS ?_⟩;have ay:cv [] (λw=>0)++(S.zipIdx 0).map (λd=>(d.1.toV,V.int (d.2:Nat)))=cv S (ix S):=by have:=BR (P:=[]) (o:=S) nd;rw[show S.zipIdx 0=_ from this,Fb];rfl
 rw[ay];have ab:Hm S T<|ix S:=⟨λR n d p ha hb e=>oB ha hb e▸n.refl p⟩;refine l_ (MI S T ag H) _ ⟨ix S,Do,rfl,rfl,⟨rfl,rfl,rfl⟩,rfl,ab,λe=>EX e⟩ ?_;intro y m H' s W nx rt;refine nc s λh p z2 z3 l r hm aB=>aZ l λcu N Y=>?_;clear s rt;subst z2;subst z3;refine gW r ?_;clear r;induction p with
 |false=>
  refine show(if EF=Do then _ else _:Prop)from a3<|aU<|ac Y<|q h hm λd ha p hb c=>?_;have ga:=eu ha;have Q:=eu hb;rcases L2 (ix S d) (ix S p)with x|x|x
  .refine(aB rfl _ _ _ _ x Q ga).elim (λe=>?_) λe=>?_;.exact e.symm
   .exact aJ (c.imp (az d p) f7.symm) e
  .rw[oB ha hb x]
  .refine(aB rfl _ _ _ _ x ga Q).elim (λe=>?_) λe=>?_;.exact e
   .exact aJ c e|true=>
  refine show(if Do=Do then _ else _:Prop)from a1<|bG<|aG<|e4<|pk cu ?_;rw[pj];refine⟨a0<|by rw[Ex,Lv];exact hl,e5 (λj:Tm×Nat=>V.tup [.int (j.2:Nat),j.1.toV]) (MJ S T ag h H') ⟨0,h,EF,Lb,rfl,l,rfl,hm,λe=>EX e,λw=>EM _,λw i a t aj h=>aJ h<|GB _⟩ ?_ ?_⟩
  .intro s as m H2 z2 K' av;refine gB z2 λk L p b z3 l r E=>aZ l λcu N Y=>?_;clear z2;rcases s with⟨D,at_⟩;subst z3;have af:k<S.length:=by
    by_cases c:k<S.length;.exact c
    .rw[G5<|Gf.mp c]at b;cases b
   have X:S[k]?=j' S[k]:=EL af;rw[GH af]at b;injection b with e1 b;injection e1 with e1 e2;rw[<-e1]at X;subst e2;have I:=E0 X;refine gS<|e4<|ce<|mH<|ac cu<|ac rfl<|t3 (aE 0x3bdafa1201161a8034fa140 rfl hl af) aO ?_;rw[<-List.map_take];refine⟨a0<|by rw[Ex,Hh];exact aE 0x1da7d0a80034fa140 rfl hl,e5 Tm.toV (MK S T ag h D at_ H2) ⟨[],L,p,rfl,rfl,rfl,l,r,E,λw aj hu=>(Ez hu).elim⟩ ?_ ?_⟩
   .clear l E cu N Y r av m;intro J f m H3 s K2 av;refine hx s λP L p am z2 l7 l r z3=>aN z3 λE aw=>aZ l λcu N Y=>bM E λO aK aq al=>?_;clear s z3 q;subst z2;have Z:J∈S:=NL<|am▸Fz _ Eu;have ax:S.take at_=P++[J]++f:=by rw[am,FS];rfl
    have skip:m0 ag L D J->K2 .nx (m.set 8 J.toV) H3:=λaa=>av _ _ ⟨P++[J],L,p,ax,rfl,l7,l,r,E,λhb aj hu=>by
     refine(E1.mp hu).elim (λhu=>?_) λhu=>?_;.exact aw hb aj hu
     .exact ta.mp hu▸aa⟩;refine bA<|jI<|aW<|aX<|ac Y<|ac l7<|hV z I<|aX<|ac Y<|ac rfl<|hV z Z<|sR (λe=>a3<|a3<|b6<|skip<|.inl e) λK=>a1<|mI ?_;have go:∀KK,((D,J)∈ag\/f7 L D J->KK Do H3)->(¬((D,J)∈ag\/f7 L D J)->KK EF H3)->bS tab (CN<|G+1) (.bo EF<|.cons (.cmp .isIn (.tup<|.cons (.v 7)<|.cons (.v 8) .nil)<|.v 24)<|.cons (.x<|.call 44<|.cons (.v 7)<|.cons (.v 8)<|.cons (.v 76) .nil) .nil) (m.set 8 J.toV) H3 KK:=λKK k1 A=>by
     refine fC<|aW<|bO<|ap<|ac l7<|ap<|ac rfl<|aH<|ac N<|iU (t5 (z _ I)<|z _ Z) aL (λaI=>e7<|k1<|.inl<|t4.mp aI) λM=>e8<|iY<|kA<|cd<|ap<|ac l7<|ap<|ac rfl<|ap<|ac Y<|aH<|BQ z (cl _ I) (cl _ Z) (λha=>k1<|.inr ha) λaM=>A ?_;rintro(h|h);.exact M<|t4.mpr h
     .exact aM h
    refine go _ (λhc=>a1<|a1 ?_) λhc=>a3<|a3<|b6<|skip<|.inr hc;refine b4<|jy<|fW<|ap<|aX<|ac Y<|ac l7<|hV z I<|ap<|aX<|ac Y<|ac rfl<|hV z Z<|aH<|kF (ns:=[L D,L J]) rfl (show 2<64 by decide) λms pm st=>?_;rw[sv pm st];refine⟨rfl,rfl,?_⟩;refine aN (BV O I Z K λR n=>hc.elim (hT R n _ _) λha=>BU O n I Z (cl _ I) (cl _ Z) ha) λar ad=>bG<|t0<|BS Y ?_;have aP:(cv S L).map (λe=>V.tup [e.1,e.2])=S.map λt=>V.tup [t.toV,.int (L t:Nat)]:=by unfold cv;rw[Fb];rfl
    rw[aP];refine⟨a0<|by rw[Ex];exact hl,tW (ao:=[]) (h0:=λw=>0) (λt:Tm=>V.tup [t.toV,.int (L t:Nat)]) id (λt=>if L t=max (L D) (L J)then min (L D) (L J)else L t) (λd w kk k=>gS<|ac rfl<|bZ<|aW<|ac rfl<|ac rfl<|zS (λe=>a1<|ac rfl ?_) λe=>a3<|ac rfl ?_) (λd ha=>z d ha) (λt h=>(Ez h).elim) (by rw[Ke];exact nd) (by rw[Ke];exact hl) ?_⟩;.rw[aF e]at k;exact k
    .rw[aC e]at k;exact k
    .refine bG<|aG<|b6<|b6<|av _ _ ⟨P++[J],_,Do,ax,rfl,l7,⟨cu,N,rfl⟩,rfl,⟨ar,λw=>?_,λe=>EX e,λe=>EX e⟩,λe=>EX e⟩;.induction p with|false=>exact Ew ad<|aq rfl|true=>exact GA ad<|aK rfl
   .clear l E cu N Y r m;intro m H3 s;refine hx s λP L p am z2 l7 l r z3=>aN z3 λE aw=>bM E λO aK aq al=>?_;clear s z3 q;subst z2;refine av _ _ ⟨at_+1,L,p,b,rfl,l,r,O,aK,aq,λhb i a t aj hi hj ae an=>?_⟩;rw[FR]at am;rcases Mt.mp hi with hi|rfl;.exact al hb i a t aj hi hj ae an
    .rw[X]at ae;obtain rfl:=EA ae;exact aw hb aj<|am▸E0 (i:=a) ((List.getElem?_take_of_lt hj).trans an)
  .clear l cu N Y m;intro m H2 s;refine gB s λk L p b z2 l r E=>bM E λO aK aq al=>?_;clear s q;subst z2;have af:¬k<S.length:=λc=>by rw[GH c]at b;cases b
   refine b6<|nx (2*hW S L+p.toNat) _ _ ?_ ⟨L,p,rfl,rfl,l,r,O,λhb i a t aj hj ae an=>al hb i a t aj (Ew (EN.mp ae).1<|Gf.mp af) hj ae an⟩;induction p with|false=>exact aE 0x76ae0a581125c04b0024d020 rfl<|aq rfl|true=>exact aE 0x76ae0a581125c14b0024d420 rfl<|aK rfl
end
section
variable{Q:Dom β}{aa:β->V}{sp:Bool}{bh:Int}{T:Tm->Tm->Prop}
section
variable{G:Nat}{H:Hp}{C:V->Hp->Prop}{S:List Tm}{h:Tm->Nat}
def lr(Q:Dom β)(ns:List Nat)(ao:List<|Nat×β):List<|Nat×β:=ns.foldl (λan c=>cJ an c Q.top) ao
structure HX(D:Dom β)(S:List Tm)(T:Tm->Tm->Prop)(h:Tm->Nat)(Z:List<|Nat×β):Prop where
 nd:(Z.map Prod.fst).Nodup
 keys:∀c,c∈Z.map Prod.fst↔∃t∈S,h t=c
 ok:∀e∈Z,D.ok e.2
 up:∀Y,PostFix D S T Y->∀t∈S,D.le (Y t)<|aS D Z<|h t
theorem t6(af:Q.Law)(ok:∀e∈Z,Q.ok e.2)(c:Nat):Q.ok<|aS Q Z c:=by
 refine my (Q:=Q) (an:=Z) (c:=c).elim (λh=>?_) λh=>?_;.exact ok _ h
 .rw[h];exact af.c9
theorem i4(hc:c∈Z.map Fe):dget (a' aa Z) (.int (c:Nat))=j' (aa<|aS Q Z c):=by induction Z with|nil=>exact(Ez hc).elim|cons e Z ih=>
  obtain⟨k,x⟩:=e;show(if V.int (k:Nat)=V.int (c:Nat)then j' (aa x)else dget (a' aa Z)<|.int (c:Nat))=j' (aa<|if k=c then x else aS Q Z c);by_cases e:k=c;.rw[aF<|by rw[e],aF e]
  .rw[aC<|iM e,aC e];exact ih<|(EG.mp hc).resolve_left λx=>e x.symm
set_option tactic.hygienic true in
theorem BX(af:Q.Law):∀{ns}{ao},(ao.map Fe).Nodup->(∀e∈ao,e.2=Q.top)->((lr Q ns ao).map Fe).Nodup/\(∀e∈lr Q ns ao,e.2=Q.top)/\∀c,c∈(lr Q ns ao).map Fe↔c∈ao.map Fe\/c∈ns:=by intro v;induction v with|nil=>intro ao nd ht;exact⟨nd,ht,λc=>⟨.inl,λh=>h.resolve_right λh=>(Ez h).elim⟩⟩|cons l ns ih=>
  intro ao nd ht;have e:=k3 ao l Q.top;have a:((cJ ao l Q.top).map Fe).Nodup:=by
   rw[e];split;.exact nd
   .next hn=>exact Gd.mpr ⟨nd,FW _ _,λd ha p hb e=>hn<|by rw[ta.mp hb]at e;exact e▸ha⟩
  have f:∀e∈cJ ao l Q.top,e.2=Q.top:=λe he=>(iO he).elim (λh=>h▸rfl)<|ht e;refine aZ (ih a f) λJ L b=>⟨J,L,λc=>(b c).trans ?_⟩;rw[e];split;.next hn=>exact⟨λh=>h.imp id<|Ev _,λh=>h.elim .inl λh=>(EG.mp h).elim (λe=>.inl<|e▸hn) .inr⟩
  .rw[E1,ta,EG];exact⟨λh=>h.elim (λh=>h.elim .inl λh=>.inr<|.inl h) λh=>.inr<|.inr h,λh=>h.elim (λh=>.inl<|.inl h) λh=>h.elim (λh=>.inl<|.inr h) .inr⟩
theorem BY(hi:m i=j' (.br f))(k:Kk (f.map λe=>e.2) H):cO tab ab (.values<|.v i) m H Kk:=ac (ab:=ab) (C:=λv H=>match v with|.br f=>Kk (f.map λe=>e.2) H|_=>False) hi k
theorem BZ(k:cO tab ab it m H λz H=>z.length<=aR/\ei (λx H kk=>bY tab ab t x (m.bh t.vars) H λl' H=>am tab ab ke l' H λkv H=>am tab ab ve l' H λn H=>kk kv n H) z [] H λf H=>∀d,H d=kf->C (.ref d) (H.set d<|.dict f)):am tab ab (.b8 Do ke ve t it) m H C:=k
theorem B0:∀{ns}{ao},(∀l,∀kk,kk (.int (l:Nat)) (aa Q.top) H->body (.int (l:Nat)) H kk)->ao.length+ns.length<=1000->Kk (a' aa<|lr Q ns ao) H->ei body (aM ns) (a' aa ao) H Kk:=by intro v;induction v with|nil=>intro ao g g1 k;exact k|cons l ns ih=>
  intro ao hb hl k;refine oU<|hb l _ ⟨cC (ec aa ao) _,a0<|by unfold a';rw[Ex];rw[Fi]at hl;exact aE 0xed3e85029f429ce0a420 rfl hl,?_⟩;rw[iN];refine ih hb ?_ k;have:(cJ ao l Q.top).length<=ao.length+1:=by
   have e:=aY Hk<|k3 ao l Q.top;rw[Ex]at e;rw[e];split;.rw[Ex];exact EB _ _
   .rw[EH,Ex];exact EM _
  rw[Fi]at hl;exact aT 0x1ded3e853822a382900a9f429ce0a420 rfl hl this
theorem B1(ha:H d=kf):(H.set d D).del d=H:=by
 funext x;show(if x=d then kf else(H.set d D) x)=H x;by_cases e:x=d;.rw[aF e,e,ha]
 .rw[aC e,Hp.af _ _ e]
theorem gA:(H.set d D).set d o'=H.set d o':=by
 funext x;by_cases e:x=d;.rw[e,Hp.ao,Hp.ao]
 .rw[Hp.af _ _ e,Hp.af _ _ e,Hp.af _ _ e]
def f8(Q:Dom β)(Kk:List Nat)(Z:List<|Nat×β):Nat:=(Kk.map λc=>Q.rk<|aS Q Z c).sum
theorem B2(hi:m i=j' (.ref d))(ha:H d=j' (.dict f))(k:aV tab ab o (m.set i<|.br f) (H.del d) A):aV tab ab (.cons (.f9 i) o) m H A:=by show av (m i) _;rw[hi];show av (H d) _;exact ha▸k
theorem hq(k:Kk (m.set i x) H):bY tab ab (.v i) x m H Kk:=k
theorem hr(k:bY tab ab t x m H λm H=>gh tab ab o z m H Kk):gh tab ab (.cons t o) (x::z) m H Kk:=k
def t7(S:List Tm)(h:Tm->Nat)(sp:Bool)(bh:Int)(d:Nat)(z o1 J o3 o4:Option V):Prop:=z=j' (.lst<|S.map Tm.toV)/\o1=j' (.br<|cv S h)/\J=j' (.bool sp)/\o3=j' (.int bh)/\o4=j' (.ref d)
@[reducible]def LI(Q:Dom β)(aa:β->V)(S:List Tm)(T:Tm->Tm->Prop)(h:Tm->Nat)(sp:Bool)(bh:Int)(d:Nat)(H:Hp)(y:Nat)(m:aL)(H':Hp):Prop:=∃Z p,y=2*f8 Q (S.map h) Z+p.toNat/\H'=H.set d (.dict<|a' aa Z)/\t7 S h sp bh d (m 15) (m 76) (m 81) (m 82) (m 83)/\m 77=j' (.bool p)/\HX Q S T h Z/\(p=EF->∀t∈S,Q.le (aS Q Z<|h t)<|Q.F t.sh<|t.kids.map λk=>aS Q Z<|h k)
@[reducible]def LJ(Q:Dom β)(aa:β->V)(S:List Tm)(T:Tm->Tm->Prop)(h:Tm->Nat)(sp:Bool)(bh:Int)(d:Nat)(H:Hp)(Z:List<|Nat×β)(as:List Tm)(m:aL)(H':Hp):Prop:=∃P Z2 p,S=P++as/\H'=H.set d (.dict<|a' aa Z2)/\t7 S h sp bh d (m 15) (m 76) (m 81) (m 82) (m 83)/\m 77=j' (.bool p)/\HX Q S T h Z2/\(p=Do->f8 Q (S.map h) Z2<f8 Q (S.map h) Z)/\(p=EF->f8 Q (S.map h) Z2<=f8 Q (S.map h) Z)/\(p=EF->∀t∈P,Q.le (aS Q Z2<|h t)<|Q.F t.sh<|t.kids.map λk=>aS Q Z2<|h k)
theorem t8(N:LAna Q aa sp bh)(z:∀t∈S,t.dp<=2)(cl:∀t∈S,∀k∈t.kids,k∈S)(hl:S.length<=60)(hc:∀R,R=(λd p=>d=p\/d∈S/\p∈S/\h d=h p)->Cgr S T R)(hm:Hm S T h)(q:∀aw cs,PostFix Q S T aw->(∀az,PostFix Q S T az->∀t∈S,Q.le (az t)<|aw t)->cs.Nodup->cs.length<=60->(∀c,c∈cs↔∃t∈S,h t=c/\aw t=Q.ah)->C (.lst<|aM cs) H):CN (G+4) 51 [.lst<|S.map Tm.toV,.br<|cv S h,.bool sp,.int bh] H C:=by
 have af:=N.cm;have aO:(S.map Tm.toV).length<=1000:=by rw[Ex];exact ED ‹_› dd
 refine a6 (fn:=qM) rfl rfl<|b4<|bO<|ap<|BZ<|BY rfl ?_;have ev:(cv S h).map (λe=>e.2)=aM (S.map h):=by unfold cv aM;rw[Fb,Fb];rfl
 rw[ev];refine⟨a0<|by rw[bV,Ex];exact ED ‹_› dd,B0 (aa:=aa) (Q:=Q) (ns:=S.map h) (ao:=[]) (λl kk k=>hq<|ac rfl<|bZ<|gW rfl ?_) (by rw[Ex];show 0+S.length<=1000;rw[IN];exact ED hl dd) λd ha=>?_⟩;.have e:=N.top;clear N;induction sp with|true=>rw[e]at k;exact show(if Do=Do then _ else _:Prop)from a1<|bO<|ap<|eW<|g9<|eX<|ap<|g9<|aH k|false=>rw[e]at k;exact show(if EF=Do then _ else _:Prop)from a3<|aG k
 refine aZ (BX af (ns:=S.map h) (ao:=([]:List<|Nat×β)) Hu λg h=>(Ez h).elim) λn0 t0 k0=>?_;generalize lr Q (S.map h) ([]:List<|Nat×β)=Z0 at n0 t0 k0;have a5:HX Q S T h Z0:=⟨n0,λc=>(k0 c).trans ⟨λh=>h.elim (λh=>(Ez h).elim) λh=>by refine aA (EO.mp h) λt ht e=>?_;exact⟨t,ht,e⟩,λ⟨t,ht,e⟩=>.inr<|EO.mpr ⟨t,ht,e⟩⟩,λe he=>t0 e he▸af.c9,λaz i t ht=>by
  refine my (Q:=Q) (an:=Z0) (c:=h t).elim (λe=>?_) λe=>?_;.have:=t0 _ e;rw[show aS Q Z0 (h t)=Q.top from this];exact af.le_top<|i.ok t
  .exact e▸af.le_top (i.ok t)⟩;have lenZ:∀{Z},HX Q S T h Z->Z.length<=60:=λ{Z}E=>by
  have:=E.nd.length_le_of_subset (l₂:=S.map h) λc hc=>by refine aA ((E.keys c).mp hc) λt ht e=>?_;exact EO.mpr ⟨t,ht,e⟩
  rw[Ex,Ex]at this;exact ED ‹_› ‹_›
 refine ap<|aG<|aH<|gS ?_;refine l_ (LI Q aa S T h sp bh d H) _ ⟨Z0,Do,rfl,rfl,⟨rfl,rfl,rfl,rfl,rfl⟩,rfl,a5,λe=>EX e⟩ ?_;intro y m H' s W nx rt;refine nc s λZ p z2 z3 lf r E aB=>jT lf λcu Y j ay K=>?_;clear s rt;subst z2;subst z3;refine gW r ?_;induction p with
 |false=>
  refine show(if EF=Do then _ else _:Prop)from a3<|B2 K (Hp.ao _ _ _)<|aU<|c4<|ce<|ac rfl ?_;rw[B1 ha];have b3:∀c,Decidable<|aS Q Z c=Q.ah:=λc=>F_ _;have ik:j5 (.br<|a' aa Z)=j' (aM<|Z.map Fe):=by show(if _ then _ else _)=_;refine(aF<|FE.mpr λe he=>by refine aA (EO.mp he) λx g s=>?_;clear he;subst s;rfl).trans ?_;unfold a' aM;rw[Fb,Fb];rfl
  rw[ik];have aP:=lenZ E;refine⟨a0<|by rw[bV,Ex];exact ED ‹_› dd,kK (λ(c:Nat)=>V.int c) (λc=>@decide _<|b3 c) (λc hc k q=>?_) ?_⟩
  .refine aW<|aX<|ac (by show(aL.set m 83 _) 83=_;exact rfl)<|ac rfl<|tV (cC (ec aa Z) _) (i4 (Q:=Q) hc)<|aG ?_;by_cases e:aS Q Z c=Q.ah;.rw[@decide_eq_true _ (b3 c) e]at q;exact cH (N.pure _) (e▸N.ah▸rfl) q
   .rw[@decide_eq_false _ (b3 c) e]at q;exact c3 (N.pure _) (ci dd) (λe'=>e<|N.inj<|e'.trans N.ah.symm) q
  .have dS:∀t,Decidable<|t∈S:=λt=>F_ _;have ax:∀t,t∈S->@ite _ (t∈S) (dS t) (aS Q Z<|h t) Q.top=aS Q Z (h t):=λt ht=>@if_pos _ (dS t) ht _ _ _;refine q (λt=>@ite _ (t∈S) (dS t) (aS Q Z<|h t) Q.top) _ ⟨λt=>?_,λt aj hR=>?_,λt ht=>?_⟩ (λaz i t ht=>?_) (E.nd.filter _) (ED (Kx _ _)<|by rw[Ex];exact aP) λc=>?_
   .by_cases ht:t∈S;.rw[ax t ht];exact t6 af E.ok _
    .rw[@if_neg _ (dS t) ht];exact af.c9
   .refine(hR _<|hc _ rfl).elim (λe=>?_) λar=>aZ ar λJ L e=>?_;.rw[e]
    .rw[ax t J,ax aj L,e]
   .rw[ax t ht,FJ λk X=>ax k<|cl t ht k X];exact(aB rfl) t ht
   .rw[ax t ht];exact E.up az i t ht
   .rw[Hv,E.keys,@decide_eq_true_iff _<|b3 c];constructor;.intro s;refine aN s λz2 e=>aA z2 λt ht z3=>?_;clear s;clear z2;subst z3;exact gb t ht rfl<|by rw[ax t ht];exact e
    .intro s;refine a4 s λt ht z2 e=>?_;clear s;subst z2;rw[ax t ht]at e;exact⟨⟨t,ht,rfl⟩,e⟩|true=>
  refine show(if Do=Do then _ else _:Prop)from a1<|bG<|aG<|e4<|ce<|ac (v:=.lst<|S.map Tm.toV) cu ⟨a0 aO,e5 Tm.toV (LJ Q aa S T h sp bh d H Z) ⟨[],Z,EF,rfl,rfl,lf,rfl,E,λe=>EX e,λg=>EM _,λg t h=>(Ez h).elim⟩ ?_ ?_⟩
  .clear lf cu Y j ay K r m nx W;intro D as m H' s K' av;refine hx s λP Z2 p O z2 lf r ae z3=>aZ z3 λaK aq al=>jT lf λcu Y j ay K=>?_;clear s z3;subst z2;have I:D∈S:=O▸Fz _ Eu;have l2:=gm D;have ke:∀{t},t∈S->h t∈Z2.map Prod.fst:=λ{t}ht=>(ae.keys _).mpr ⟨t,ht,rfl⟩;have w:=t6 af ae.ok;have ga:(H.set d<|.dict<|a' aa Z2) d=j' (.dict<|a' aa Z2):=Hp.ao _ _ _;refine b4<|bO<|ap<|c4<|ce<|fE<|ac rfl ?_;rw[iE];refine fZ (by rw[Ex];exact ER ‹_› dd) ⟨a0<|by rw[Ex];exact ED ‹_› dd,fX Tm.toV (λx=>aa<|aS Q Z2<|h x) (λx E kY q=>?_) ?_⟩;.have aQ:=cl D I x E;exact aX<|ac K<|aX<|ac Y<|ac rfl<|hV z aQ<|gk ga (cC (ec aa Z2) _) (i4<|ke aQ) q
   rw[<-iE,show(D.kids.map λx=>aa<|aS Q Z2<|h x)=(D.kids.map λk=>aS Q Z2<|h k).map aa by rw[Fb];rfl];refine ap<|aX<|ac Y<|ac rfl<|hV z I<|aH<|gS ?_;have s3:∀{a}{v A x u},a≠7->a≠31->a≠38->m a=j' v->(((m.set 7 A).set 31 x).set 38 u) a=j' v:=λ{a v A x u}J L b e=>(aL.af _ _ b).trans<|(aL.af _ _ L).trans<|(aL.af _ _ J).trans e;have g7:∀{A x u},(((m.set 7 A).set 31 x).set 38 u) 7=j' A:=λ{A x u}=>rfl;have aR:∀{A x u},(((m.set 7 A).set 31 x).set 38 u) 31=j' x:=λ{A x u}=>rfl;have aD:∀x∈D.kids.map λk=>aS Q Z2<|h k,Q.ok x:=λx E=>by refine aA (EO.mp E) λk g s=>?_;clear E;subst s;exact w _
   have aI:(D.kids.map λk=>aS Q Z2<|h k).length=D.sh.ar:=by rw[Ex];exact mj D
   have o:=af.gg aI aD;have a7:∀Kk,Kk (aa<|Q.F D.sh<|D.kids.map λk=>aS Q Z2<|h k) (H.set d<|.dict<|a' aa Z2)->am tab (CN<|G+3) (.ite (.x<|.v 81) (.call 47<|.cons (.sub (.v 7)<|.k<|.int 0)<|.cons (.v 31)<|.cons (.v 82) .nil)<|.call 49<|.cons (.sub (.v 7)<|.k<|.int 0)<|.cons (.v 31)<|.cons (.v 82) .nil) (((m.set 7 D.toV).set 31<|.lst<|(D.kids.map λk=>aS Q Z2<|h k).map aa).set 38<|.int (h D:Nat)) (H.set d<|.dict<|a' aa Z2) Kk:=λKk k=>by
    have:=N.fx G (H.set d<|.dict<|a' aa Z2) Kk D.sh _ aI aD k;refine bZ<|gW j ?_;clear N av j;induction sp;.exact show(if EF=Do then _ else _:Prop)from a3<|cd<|ap<|aX<|ac g7<|aG<|mZ<|ap<|ac aR<|ap<|ac ay<|aH this
    .exact show(if Do=Do then _ else _:Prop)from a1<|cd<|ap<|aX<|ac g7<|aG<|mZ<|ap<|ac aR<|ap<|ac ay<|aH this
   refine bG<|a7 _ ?_;have aT:∀{A x}{l}{u},((((m.set 7 A).set 31 x).set 38<|.int l).set 42 u) 38=j' (.int l):=λ{A x l u}=>rfl;have a8:∀Kk,Kk (aa<|Q.meet (aS Q Z2<|h D)<|Q.F D.sh<|D.kids.map λk=>aS Q Z2<|h k) (H.set d<|.dict<|a' aa Z2)->am tab (CN<|G+3) (.ite (.x<|.v 81) (.call 48<|.cons (.sub (.v 83)<|.v 38)<|.cons (.v 42) .nil)<|.call 50<|.cons (.sub (.v 83)<|.v 38)<|.cons (.v 42) .nil) ((((m.set 7 D.toV).set 31<|.lst<|(D.kids.map λk=>aS Q Z2<|h k).map aa).set 38<|.int (h D:Nat)).set 42<|aa<|Q.F D.sh<|D.kids.map λk=>aS Q Z2<|h k) (H.set d<|.dict<|a' aa Z2) Kk:=λKk k=>by
    have:=N.jn G (H.set d<|.dict<|a' aa Z2) Kk _ _ k;refine bZ<|gW j ?_;induction sp;.exact show(if EF=Do then _ else _:Prop)from a3<|cd<|ap<|aX<|ac K<|ac aT<|gk ga (cC (ec aa Z2) _) (i4<|ke I)<|ap<|ac rfl<|aH this
    .exact show(if Do=Do then _ else _:Prop)from a1<|cd<|ap<|aX<|ac K<|ac aT<|gk ga (cC (ec aa Z2) _) (i4<|ke I)<|ap<|ac rfl<|aH this
   refine bG<|a8 _ ?_;have aY:=w<|h D;have aJ:=af.meet_ok aY o;have aV:∀{A x}{l}{u M},(((((m.set 7 A).set 31 x).set 38<|.int l).set 42 u).set 42 M) 38=j' (.int l):=λ{A x l u M}=>(aL.af _ _ dd).trans rfl;have a2:S=P++[D]++as:=by rw[FS];exact O
   refine bA<|aW<|ac rfl<|aX<|ac K<|ac aV<|gk ga (cC (ec aa Z2) _) (i4 (Q:=Q)<|ke I) ?_;by_cases e:Q.meet (aS Q Z2<|h D) (Q.F D.sh<|D.kids.map λk=>aS Q Z2<|h k)=aS Q Z2 (h D)
   .refine ma (N.pure _) (by rw[e])<|a3<|b6<|av _ _ ⟨P++[D],Z2,p,a2,rfl,lf,r,ae,aK,aq,λhb t ht=>?_⟩;refine(E1.mp ht).elim (λht=>?_) λht=>?_;.exact al hb t ht
    .rw[ta.mp ht];have:=af.ef aY o;rw[e]at this;exact this
   .have a9:HX Q S T h<|cJ Z2 (h D)<|Q.meet (aS Q Z2<|h D)<|Q.F D.sh<|D.kids.map λk=>aS Q Z2<|h k:=by
     have ek:=k3 Z2 (h D)<|Q.meet (aS Q Z2<|h D)<|Q.F D.sh<|D.kids.map λk=>aS Q Z2<|h k;rw[aF<|ke I]at ek;refine⟨ek▸ae.nd,λc=>ek▸ae.keys c,λe he=>(iO he).elim (λe'=>e'▸aJ)<|ae.ok e,λaz i t ht=>?_⟩;rw[hk];by_cases c:h D=h t
     .rw[aF c,i.R t D λR n=>hm.snd R n t D ht I c.symm];have yu:=ae.up az i;refine af.le_meet aY o (i.ok D) (yu D I)<|af.trans (i.le D I)<|af.mono (by rw[Ex];exact mj D) (λx E=>by refine aA (EO.mp E) λk g s=>?_;clear E;subst s;exact i.ok k) aD ?_;have go:∀ks:List Tm,(∀k∈ks,k∈S)->db Q.le (ks.map az) (ks.map λk=>aS Q Z2<|h k):=λks=>by induction ks with|nil=>exactλg=>trivial|cons k ks ih=>intro X;exact⟨yu k<|X k Eu,ih λx E=>X x<|Ev _ E⟩
      exact go D.kids<|cl D I
     .exact aC c▸ae.up az i t ht
    have ad:f8 Q (S.map h) (cJ Z2 (h D)<|Q.meet (aS Q Z2<|h D)<|Q.F D.sh<|D.kids.map λk=>aS Q Z2<|h k)<f8 Q (S.map h) Z2:=by
     refine oV (λx g=>?_) (Fx (f:=h) I) ?_
     .rw[hk];by_cases c:h D=x;.exact aF c▸c▸Fa (af.rk_lt aJ aY (af.dk aY o) e)
      .exact aC c▸EM _
     .rw[hk,aF rfl];exact af.rk_lt aJ aY (af.dk aY o) e
    have aP:=lenZ ae;refine kD (N.pure _) (N.pure _) (λx=>e<|N.inj x)<|a1<|b4<|bO<|ap<|ac rfl<|ap<|aG<|aH ⟨rfl,hr<|gQ<|ac K<|ac aV<|hN ga (cC (ec aa Z2) _) (a0<|by unfold a';rw[Ex];exact ED ‹_› dd) ?_⟩;rw[gA,iN];refine⟨rfl,b6<|b6<|av _ _ ⟨P++[D],_,Do,a2,rfl,lf,rfl,a9,λg=>?_,λe=>EX e,λe=>EX e⟩⟩;.induction p with|false=>exact Ew ad<|aq rfl|true=>exact GA ad<|aK rfl
  .clear lf cu Y j ay K r m;intro m H' s;refine hx s λP Z2 p O z2 lf r ae z3=>aZ z3 λaK aq al=>?_;clear s z3;subst z2;rw[FR]at O;refine b6 (ab:=CN<|G+3)<|nx (2*f8 Q (S.map h) Z2+p.toNat) _ _ ?_ ⟨Z2,p,rfl,rfl,lf,r,ae,λhb t ht=>al hb t<|O▸ht⟩;clear r al;induction p with|false=>show 2*f8 Q (S.map h) Z2+0<2*f8 Q (S.map h) Z+1;exact aE 0x76ae0a581125c04b0024d020 rfl<|aq rfl|true=>show 2*f8 Q (S.map h) Z2+1<2*f8 Q (S.map h) Z+1;exact aE 0x76ae0a581125c14b0024d420 rfl<|aK rfl
end
end
set_option tactic.hygienic true in
theorem pm(h:af.Nodup):(b_ t af).Nodup:=by
 unfold b_;split;.exact h
 .next hn=>exact Gd.mpr ⟨h,FW _ _,λd ha p hb e=>hn<|by rw[ta.mp hb]at e;exact e▸ha⟩
set_option tactic.hygienic true in
theorem f_:aj∈b_ t af↔aj∈af\/aj=t:=by
 unfold b_;split;.next h=>exact⟨.inl,λx=>x.elim id λe=>e▸h⟩
 .rw[E1,ta]
theorem pn(t:Tm)(af:List Tm):(b_ t af).length<=af.length+1:=by
 unfold b_;split;.exact GV _
 .rw[EH];exact EM _
theorem B3:∀{af},af.Nodup->(a9 t af).Nodup:=by induction t with|lf i=>exactλh=>pm h|un p t ih=>exactλh=>pm<|ih h|bi p r t m j=>exactλh=>pm<|j<|m h
theorem B4:∀{af},(a9 t af).length<=af.length+wt t:=by induction t with|lf i=>exactλ{af}=>pn _ af|un p t ih=>intro af;have:=ih (af:=af);have:=pn (.un p t)<|a9 t af;show(b_ (.un p t)<|a9 t af).length<=af.length+(1+wt t);exact cy 0x1ded1ce105211d1c14807470820 rfl ‹_› this|bi p r t m j=>intro af;have:=m (af:=af);have:=j (af:=a9 r af);have:=pn (.bi p r t)<|a9 t<|a9 r af;show(b_ (.bi p r t)<|a9 t<|a9 r af).length<=af.length+(1+(wt r+wt t));exact zc 0x1def68e738820a425a38291968e2007470820 [_,_,_,_,_,_] rfl ‹_› ‹_› this
theorem m1:∀{af},aj∈a9 t af↔aj∈af\/aj∈a9 t []:=by induction t with|lf i=>intro af;show aj∈b_ _ _↔_\/aj∈b_ _ _;rw[f_,f_];exact⟨λh=>h.imp id .inr,λh=>h.imp id λh=>h.resolve_left λh=>(Ez h).elim⟩|un p t ih=>intro af;show aj∈b_ _ _↔_\/aj∈b_ _ _;rw[f_,f_,ih];exact or_assoc|bi p r t m j=>intro af;show aj∈b_ _ _↔_\/aj∈b_ _ _;rw[f_,f_,j,j (af:=a9 r []),m];simp only[or_assoc]
theorem t9:aj∈a9 t []->aj.dp<=t.dp:=by induction t with
 |lf i=>intro h;rcases f_.mp h with h|h;exact(Ez h).elim;exact h▸EM _|un p t ih=>
  intro h;refine(f_.mp h).elim (λh=>?_) λh=>?_;.exact Iy<|ih h
  .exact h▸EM _|bi p r t m j=>
  intro h;refine(f_.mp h).elim (λh=>?_) λh=>?_
  .refine(m1.mp h).elim (λh=>?_) λh=>?_;.exact Iy<|ED (m h)<|Jb _ _
   .exact Iy<|ED (j h)<|IL _ _
  .exact h▸EM _
theorem B5:∀{af},(∀aj∈af,∀k∈aj.kids,k∈af)->∀aj∈a9 t af,∀k∈aj.kids,k∈a9 t af:=by
 have LO:∀t af,(∀aj∈af,∀k∈aj.kids,k∈af)->(∀k∈t.kids,k∈af)->∀aj∈b_ t af,∀k∈aj.kids,k∈b_ t af:=λt af h X aj hu k a=>by
  refine(f_.mp hu).elim (λhu=>?_) λhu=>?_;.exact f_.mpr<|.inl<|h aj hu k a
  .rw[hu]at a;exact f_.mpr<|.inl<|X k a
 induction t with|lf i=>exactλ{af}h=>LO _ af h λd h=>(Ez h).elim|un p t ih=>exactλ{af}h=>LO _ _ (ih h) λk X=>(ta.mp X).symm▸iK t af|bi p r t m j=>
  exactλ{af}h=>LO _ _ (j<|m h) λk X=>by
   rcases EG.mp X with rfl|X;.exact tc<|iK k af
   .exact(ta.mp X).symm▸iK t _
def c5(ts af:List Tm):List Tm:=ts.foldl (λaf t=>a9 t af) af
theorem m3:∀{ts af},af.Nodup->(∀aj∈af,∀k∈aj.kids,k∈af)->(c5 ts af).Nodup/\(∀aj∈c5 ts af,∀k∈aj.kids,k∈c5 ts af)/\(∀aj,aj∈c5 ts af↔aj∈af\/∃t∈ts,aj∈a9 t [])/\((∀t∈ts,t.dp<=2)->(c5 ts af).length<=af.length+7*ts.length):=by intro v;induction v with|nil=>intro af J L;exact⟨J,L,λaj=>⟨.inl,λh=>h.resolve_right λ⟨_,h,_⟩=>(Ez h).elim⟩,λG=>EM _⟩|cons t ts ih=>
  intro af J L;refine bM (ih (B3 (t:=t) J)<|B5 (t:=t) L) λd p c e=>⟨d,p,λaj=>(c aj).trans ?_,λhd=>?_⟩
  .rw[m1];constructor
   .rintro((h|h)|⟨x,E,h⟩);.exact .inl h
    .exact .inr ⟨t,Eu,h⟩
    .exact .inr ⟨x,Ev _ E,h⟩
   .intro s;obtain(h|⟨x,E,h⟩):=s;.exact .inl<|.inl h
    .rcases EG.mp E with rfl|E;.exact .inl<|.inr h
     .exact .inr ⟨x,E,h⟩
  .have J:=e λx E=>hd x<|Ev _ E;have L:=B4 (t:=t) (af:=af);have b:=sY<|hd t Eu;show(c5 ts<|a9 t af).length<=_;rw[Fi];exact gD 0x3bded1cc705223a460a212e0a49471061a39823a420 rfl J L b
section
variable{r:Nat}
noncomputable def cT(cs:List Int)(r:Nat):c2:=.list [.lst<|cs.map V.int,.int (r:Nat)]
theorem B6(q:C (.lst [.str<|cD 0,.str<|cD 1,.str<|cD 2,.str<|cD 3,.str<|cD 4,.str<|cD 5,.str<|cD 6]) H):CN (G+1) 40 [] H C:=a6 (fn:=qC) rfl rfl<|aU<|fW<|ap<|aG<|ap<|aG<|ap<|aG<|ap<|aG<|ap<|aG<|ap<|aG<|ap<|aG<|aH q
theorem B7(ha:H d=j' (.list z))(hl:z.length=ts.len)(k:gh tab ab ts z m H Kk):bY tab ab (.t ts) (.ref d) m H Kk:=by show av (bT H<|.ref d) _;exact j3 ha▸⟨hl,k⟩
theorem m4(ht:H tp=j' (cT cs r))(hc:cs.length<=1000)(hs:r<=1000)(hm:0<f)(q:∀k,k<f->C (.int (k:Nat)) (H.set tp<|cT cs<|r+1)):CN (G+1) 41 [.ref tp,.int (f:Nat)] H C:=by
 have q':∀x,C (.int<|x%(f:Nat))<|H.set tp<|cT cs<|r+1:=λx=>by have h0:=MQ x (show((f:Nat):Int)≠0 by exact aB 0x77d902640a8009 rfl hm);have J:=Lu x (show(0:Int)<(f:Nat)by exact aB 0x3b890009a8009 rfl hm);have:=q (x%(f:Nat)).toNat<|(Mo h0).mpr J;rwa[JA h0]at this
 have a:(cs.map V.int).length=cs.length:=Ex _;have e:([V.lst<|cs.map V.int,.int (r:Nat)]:List V).set 1 (.int<|(r:Int)+1)=[.lst<|cs.map V.int,.int (r+1:Nat)]:=rfl;refine a6 (fn:=qD) rfl rfl<|b4<|ac rfl<|B7 ht rfl ⟨rfl,b4<|bF<|ac rfl<|aG<|eK<|gQ<|ac rfl<|aG<|sJ (l:=1) ht (show 1<2 by decide) dd ?_⟩;rw[e];show aV tab (CN G) _ _ (H.set tp<|cT cs<|r+1) _;refine aU<|bF<|bZ<|aW<|ac rfl<|dt<|ac rfl<|gU (aE 0x77b4fa141b0034fa140 rfl hc a)<|kR ?_;rw[a];by_cases c:r<cs.length;.rw[dI<|by exact aE 0x1dc483205420 rfl c];exact show(if Do=Do then _ else _:Prop)from a1<|aX<|ac rfl<|ac rfl<|b2 (by rw[ET,EL c];rfl) (ER ‹_› dd)<|ac rfl<|gv (aB 0x3b890009a8009 rfl hm)<|q' _
 .rw[ga<|by exact aE 0x77d890640f5420 rfl c];have M:ct 9:=by unfold ct dC;decide
  have ae:ct (r:Int):=by unfold ct dC;exact aB 0x3bbc746a5288002172062409f46a5288002174fa140 rfl hs
  have am:ct<|9*(r:Int):=by unfold ct dC;exact aB 0xeef1d1a94a200085b2404a70c901299f46a5288002174fa140 rfl hs
  have A:ct 4:=by unfold ct dC;decide
  exact show(if EF=Do then _ else _:Prop)from a3<|bF<|bF<|bF<|bF<|bF<|aG<|ac rfl<|iX M ae<|ac rfl<|iX am ae<|bF<|aG<|ac rfl<|iX A ae<|eK<|aG<|eK<|aG<|gv dd<|ac rfl<|gv (aB 0x3b890009a8009 rfl hm)<|q' _
end
section
variable{r:Nat}
noncomputable def gX:Nat->Nat|0=>1|l+1=>1+2*gX l
theorem B8(l:Nat):1<=gX l:=match l with|0=>EM 1|_+1=>EB 1 _
theorem B9(hc:cs.length<=1000):∀(l:Nat)(H:Hp)(r:Nat)(C:V->Hp->Prop),H tp=j' (cT cs r)->r+gX l<=1000->(∀(t:Tm)(s':Nat),t.dp<=l->s'<=r+gX l->C t.toV (H.set tp<|cT cs s'))->CN (G+l+2) 42 [.ref tp,.int (l:Nat)] H C:=by
 intro l;have A:∀{e:Nat}{l b:Nat}{H:Hp}{r:Nat}{C:V->Hp->Prop}{m:aL},m 70=j' (.ref tp)->H tp=j' (cT cs r)->r+1<=1000->(∀t:Tm,t.dp=0->C t.toV (H.set tp<|cT cs<|r+1))->am tab (CN<|e+1) (.tup<|.cons (.sub (.call 40 .nil)<|.call 41<|.cons (.v 70)<|.cons (.k<|.int 7) .nil) .nil) m H C:=λ{e l b H r C m}a ht hs k=>by refine bO<|ap<|aX<|cd<|aH<|B6<|cd<|ap<|ac a<|ap<|aG<|aH<|m4 (f:=7) ht hc (aB 0x3b4fa140a7d0a70520 rfl hs) dd λi hi=>?_;have kk:∀i:Fin 7,C (.tup [.str<|cD i])<|H.set tp<|cT cs<|r+1:=λi=>k (.lf i) rfl;refine zB hi (b2 (l:=0) rfl dd<|aH<|kk 0) (b2 (l:=1) rfl dd<|aH<|kk 1) (b2 (l:=2) rfl dd<|aH<|kk 2) (b2 (l:=3) rfl dd<|aH<|kk 3) (b2 (l:=4) rfl dd<|aH<|kk 4) (b2 (l:=5) rfl dd<|aH<|kk 5)<|b2 (l:=6) rfl dd<|aH<|kk 6
 induction l with|zero=>intro H r C ht hs q;refine a6 (fn:=nE) rfl rfl<|bG<|bZ<|aW<|ac rfl<|aG<|k8 dd<|a3<|aG<|bA<|aW<|ac rfl<|aG<|jH dd<|a1<|aU<|A (l:=0) (b:=0) (e:=G) rfl ht hs λt h=>q t _ (Hx h)<|EM _|succ l ih=>
  intro H r C ht hs q;have y:r+(1+2*gX l)<=1000:=hs;have pp:=B8 l;refine a6 (fn:=nE) rfl rfl<|bG<|bZ<|aW<|ac rfl<|aG<|k7 (aB 0xc49c148009 rfl)<|a1<|cd<|ap<|ac rfl<|ap<|aG<|aH<|m4 (G:=G+l+1) (f:=6) ht hc (aE 0x1da7d0a053e853820 rfl hs) dd λbj E=>?_;have u:(H.set tp<|cT cs<|r+1) tp=j' (cT cs<|r+1):=Hp.ao _ _ _;by_cases c2:bj<2;.exact bA<|aW<|ac rfl<|aG<|jH (aB 0x3b812640a8920 rfl c2)<|a1<|aU<|A (l:=0) (b:=0) (e:=G+l+1) rfl u (aE 0x3bda7d0a7052e0a41408534fa14e7302248520 rfl y pp) λt h=>gA.symm▸q t _ (aE 0x768e0a420b0120 rfl h) (by show r+1+1<=r+(1+2*gX l);exact aE 0x3b473980124290b82970521a0029 rfl pp)
  refine bA<|aW<|ac rfl<|aG<|mG (aB 0xefb024c81ea8920 rfl c2)<|a3<|bG<|aX<|fW<|ap<|aG<|ap<|aG<|ap<|aG<|ap<|aG<|aH<|bF<|ac rfl<|aG<|kP ?_;have o:∀{m:aL}{H:Hp}{r:Nat}{Kk:V->Hp->Prop},m 70=j' (.ref tp)->m 73=j' (.int (l+1:Nat))->H tp=j' (cT cs r)->r+gX l<=1000->(∀(t:Tm)(s':Nat),t.dp<=l->s'<=r+gX l->Kk t.toV (H.set tp<|cT cs s'))->am tab (CN<|G+l+2) (.call 42<|.cons (.v 70)<|.cons (.bin .sub (.v 73)<|.k<|.int 1) .nil) m H Kk:=λ{m H r Kk}a j ht hs k=>by refine cd<|ap<|ac a<|ap<|bF<|ac j<|aG<|kP<|aH ?_;exact(show((l+1:Nat):Int)-1=(l:Nat)by exact aB 0x66407853270520 rfl).symm▸ih H r Kk ht hs k
  have s:∀p m,m 70=j' (.ref tp)->m 73=j' (.int (l+1:Nat))->m 0=j' (.str<|a7<|.bi p)->m 74=j' (.int (bj:Nat))->(bj:Int)<4->aV tab (CN<|G+l+2) (.cons (.ret<|.bin .add (.tup<|.cons (.v 0) .nil)<|.cg<|.comp (.call 42<|.cons (.v 70)<|.cons (.bin .sub (.v 73)<|.k<|.int 1) .nil) (.v 75) (.range<|.ite (.cmp .lt (.v 74)<|.k<|.int 4) (.k<|.int 2)<|.k<|.int 1) .c0) .nil) m (H.set tp<|cT cs<|r+1) (fD C):=λp m a j h0 w hw=>by refine aU<|bF<|bO<|ap<|ac h0<|aH<|hj<|c4<|kH<|bZ<|aW<|ac w<|aG<|jH hw<|a1<|aG<|kJ (l:=2) dd ⟨by decide,?_⟩;refine hP<|o a j u (aE 0xed3e85382e0a414fa14e7302248520 rfl y) λt ae n eg=>?_;rw[gA];refine hP<|o a j (Hp.ao _ _ _) (aT 0x3bda7d0a70454705c148054fa14e7302248520 rfl y eg) λaj s2 N de=>?_;exact gA.symm▸iL (iH (z:=[t.toV,aj.toV]) (show 2<=1000 by decide)<|mr (show 2<1000 by decide)<|q (.bi p t aj) s2 (GF<|Nat.max_le.mpr ⟨n,N⟩)<|by show s2<=r+(1+2*gX l);exact cy 0x3bda39cc109214847470803a384e0a420 rfl eg de)
  have D:∀p m,m 70=j' (.ref tp)->m 73=j' (.int (l+1:Nat))->m 0=j' (.str<|a7<|.un p)->m 74=j' (.int (bj:Nat))->¬(bj:Int)<4->aV tab (CN<|G+l+2) (.cons (.ret<|.bin .add (.tup<|.cons (.v 0) .nil)<|.cg<|.comp (.call 42<|.cons (.v 70)<|.cons (.bin .sub (.v 73)<|.k<|.int 1) .nil) (.v 75) (.range<|.ite (.cmp .lt (.v 74)<|.k<|.int 4) (.k<|.int 2)<|.k<|.int 1) .c0) .nil) m (H.set tp<|cT cs<|r+1) (fD C):=λp m a j h0 w hw=>by refine aU<|bF<|bO<|ap<|ac h0<|aH<|hj<|c4<|kH<|bZ<|aW<|ac w<|aG<|mG hw<|a3<|aG<|kJ (l:=1) dd ⟨by decide,?_⟩;refine hP<|o a j u (aE 0xed3e85382e0a414fa14e7302248520 rfl y) λt ae n eg=>?_;exact gA.symm▸iL (iH (z:=[t.toV]) (show 1<=1000 by decide)<|mr (show 1<1000 by decide)<|q (.un p t) ae (GF n)<|by show ae<=r+(1+2*gX l);exact aT 0xed1ce608490a420a384e0a420 rfl eg)
  revert c2 s D;refine zA E (λc2 d d=>aJ dd c2) (λc2 d d=>aJ dd c2) (λd s d=>b2 (l:=0) rfl dd<|s EF _ rfl rfl rfl rfl dd) (λd s d=>b2 (l:=1) rfl dd<|s Do _ rfl rfl rfl rfl dd) (λd d D=>b2 (l:=2) rfl dd<|D EF _ rfl rfl rfl rfl dd) λd d D=>b2 (l:=3) rfl dd<|D Do _ rfl rfl rfl rfl dd
noncomputable def i5(ks af:List Tm):List Tm:=ks.foldl (λaf k=>a9 k af) af
theorem B_(t:Tm)(af:List Tm):a9 t af=b_ t (i5 t.kids af):=by induction t<;>rfl
theorem B':∀ks af,af.length<=(i5 ks af).length:=by intro v;induction v with|nil=>intro g;exact EM _|cons k ks ih=>intro af;exact ED (oR k af)<|ih<|a9 k af
theorem Ca(ha:H d=j' (.list z))(px:bs x)(a:∀u∈z,bs u)(q:x∈z->P EF)(q2:x∉z->P Do):bK H .notIn x (.ref d) P:=by
 show av (H d) _;rw[ha];refine⟨px,a,λp hb=>?_⟩;induction p;.exact q2 λh=>EX<|hb.mpr h
 .exact q<|hb.mp rfl
theorem Cb:∀l t,t.dp<l->t.dp<=2->∀H af C,H b=j' (.list<|af.map Tm.toV)->(∀aj∈af,aj.dp<=2)->(a9 t af).length<=100->C .none (H.set b<|.list<|(a9 t af).map Tm.toV)->CN (G+l) 43 [t.toV,.ref b] H C:=by intro v1;induction v1 with|zero=>intro g h g1 g2 g3 ad K O g7 n;exact aJ h<|GB _|succ l ih=>
  intro t aa N H af C hs hL aw q;have l2:=gm t;have w:=B_ t af;have f:(i5 t.kids af).length<=100:=ED (oS t _)<|w▸aw;have L:∀k∈t.kids,k.dp<l/\k.dp<=2:=λk X=>by have:=jA X;exact aT 0xef7bba0922a845500a82482ae0a420 rfl aa N this
  refine a6 (fn:=qE) rfl rfl<|e4<|ce<|fE<|ac (i:=62) (v:=.tup<|.str (a7 t.sh)::t.kids.map Tm.toV) (by rw[<-iE];rfl)<|fZ (by rw[Ex];exact ER ‹_› dd) ⟨a0<|by rw[Ex];exact ED ‹_› dd,e5 Tm.toV (λas m H'=>m 62=j' t.toV/\m 17=j' (.ref b)/\∃z,H' b=j' (.list<|z.map Tm.toV)/\(∀D,H'.set b D=H.set b D)/\(∀aj∈z,aj.dp<=2)/\i5 as z=i5 t.kids af/\∀k∈as,k.dp<l/\k.dp<=2) ⟨rfl,rfl,af,hs,λd=>rfl,hL,rfl,L⟩ ?_ ?_⟩
  .intro k as m H' s K' av;refine aZ s λo a z2=>jU z2 λz y p I J has=>?_;refine aN (has k Eu) λk1 A=>?_;have Q:(a9 k z).length<=100:=ED (B' as<|a9 k z)<|(show i5 as (a9 k z)=_ from J).symm▸f;refine co<|cd<|ap<|ac rfl<|ap<|ac a<|aH<|ih k k1 A H' z _ y I Q<|b6<|av _ _ ⟨o,a,a9 k z,Hp.ao _ _ _,λD=>gA.trans<|p D,λaj hu=>?_,J,λx E=>has x<|Ev _ E⟩;refine(m1.mp hu).elim (λh=>?_) λh=>?_;.exact I aj h
   .exact ED (t9 h) A
  .intro m H' s;refine aZ s λo a z2=>jU z2 λz y p I J d=>?_;have J:z=i5 t.kids af:=J;refine bA<|aW<|ac o<|ac a<|Ca y (tU N) (λu hy=>?_) (λaI=>?_) λM=>?_;.refine aA (EO.mp hy) λaj hu s=>?_;clear hy;subst s;exact tU<|I aj hu
   .refine aA (EO.mp aI) λaj hu e=>?_;rw[kN e]at hu;have e2:a9 t af=z:=w▸J▸aF hu;rw[e2,<-p]at q;have:H'.set b (.list<|z.map Tm.toV)=H':=by
     funext x;by_cases e:x=b;.rw[e,Hp.ao,y]
     .rw[Hp.af _ _ e]
    rw[this]at q;exact a3<|b6 q
   .have hu:t∉z:=λh=>M<|Fx h;have e2:a9 t af=z++[t]:=w▸J▸aC hu;rw[e2,<-p,Gk]at q;rw[e2,EH]at aw;exact a1<|co<|gn y (ac o<|gu y (by rw[Ex];unfold aR;exact ED ‹_› dd)<|b6<|b6 q) λP j=>ac a j
end
section
variable{T:Tm->Tm->Prop}
theorem pq(h:∀t,t∈N↔t∈B)(n:Cgr N T R):Cgr B T R:=⟨n.refl,n.symm,n.trans,n.ag,λha hb=>n.ft ((h _).mpr ha)<|(h _).mpr hb⟩
theorem t_(h:∀t,t∈N↔t∈B)(P:PostFix Q N T az):PostFix Q B T az:=⟨P.ok,λt aj hR=>P.R t aj λR n=>hR R<|pq h n,λt ht=>P.le t<|(h t).mpr ht⟩
def Rl(S:List Tm)(h:Tm->Nat):Tm->Tm->Prop:=λd p=>d=p\/d∈S/\p∈S/\h d=h p
theorem Cc(hT:∀d p,T d p->d∈S/\p∈S/\h d=h p)(cl:∀t∈S,∀k∈t.kids,k∈S)(A:∀d∈S,∀p∈S,f7 h d p->h d=h p):Cgr S T (Rl S h)where
 refl d:=.inl rfl
 symm:=λ{d p}x=>x.imp IV λu=>⟨u.2.1,u.1,u.2.2.symm⟩
 trans:=λ{d p c}x u=>by
  rcases x with rfl|x;.exact u
  .rcases u with rfl|u;.exact .inr x
   .exact .inr ⟨x.1,u.2.1,x.2.2.trans u.2.2⟩
 ag:=λ{d p}x=>.inr<|hT d p x
 ft:=λ{d p}ha hb hs X=>by
  refine .inr ⟨ha,hb,A d ha p hb ⟨hs,?_⟩⟩;have go:∀{z ys},db (Rl S h) z ys->z.map h=ys.map h:=λ{z}=>by induction z with
   |nil=>intro ys x;induction ys with|nil=>rfl|cons u ys=>exact x.elim
   |cons x z ih=>intro ys E;induction ys with|nil=>exact E.elim|cons u ys=>show h x::z.map h=h u::ys.map h;rw[ih E.2,E.1.elim (λe=>aY h e) λe=>e.2.2]
  exact go X
section
variable{Z:List<|Nat×β}
def Rh(S:St):Tm->Tm->Prop:=λd p=>d=p\/d∈S.B/\p∈S.B/\S.rt (ix S.B d)=S.rt (ix S.B p)
theorem ua(h:HS Y al S)(I:Inv S T)(r:S.W=[])(hT:∀d p,T d p->d∈S.B/\p∈S.B/\S.rt (ix S.B d)=S.rt (ix S.B p)):Cgr S.B T (Rh S)where
 refl d:=.inl rfl
 symm:=λ{d p}x=>x.imp IV λu=>⟨u.2.1,u.1,u.2.2.symm⟩
 trans:=λ{d p c}x u=>by
  rcases x with rfl|x;.exact u
  .rcases u with rfl|u;.exact .inr x
   .exact .inr ⟨x.1,u.2.1,x.2.2.trans u.2.2⟩
 ag:=λ{d p}x=>.inr<|hT d p x
 ft:=λ{d p}ha hb hs X=>by
  have go:∀{z ys},db (Rh S) z ys->(z.map<|ix S.B).map S.rt=(ys.map<|ix S.B).map S.rt:=λ{z}=>by induction z with
   |nil=>intro ys x;induction ys with|nil=>rfl|cons u ys=>exact x.elim
   |cons x z ih=>intro ys E;induction ys with|nil=>exact E.elim|cons u ys=>show S.rt (ix S.B x)::(z.map<|ix S.B).map S.rt=S.rt (ix S.B u)::(ys.map<|ix S.B).map S.rt;rw[ih E.2,E.1.elim (λe=>e▸rfl) λe=>e.2.2]
  have e:bv S d=bv S p:=by dsimp only[bv,a2];rw[hs,go X]
  have Q:=(I.cmp _ d<|eu ha).resolve_left λh=>by rw[r]at h;exact(Ez h).elim
  have a:=(I.cmp _ p<|eu hb).resolve_left λh=>by rw[r]at h;exact(Ez h).elim
  refine aA Q λy J L=>aA a λm' b h4=>?_;rw[e,b]at J;have:m'=y:=by injection J with J;injection J with J;exact Gl.mp J
  refine .inr ⟨ha,hb,?_⟩;rw[<-L,<-h4,this]
theorem ub(af:Q.Law)(h:HS Y al S)(I:Inv S T)(r:S.W=[])(hT:∀d p,T d p->d∈S.B/\p∈S.B/\S.rt (ix S.B d)=S.rt (ix S.B p))(V:KV Q S T Z)(st:∀c,c<S.n->S.rt c=c->mA Q S Z c)(hm:∀t,t∈M↔t∈S.B)(A:PostFix Q M T aw)(ab:∀az,PostFix Q M T az->∀t∈M,Q.le (az t)<|aw t):∀t∈S.B,aS Q Z (S.rt<|ix S.B t)=aw t:=by
 have b:∀t,Decidable<|t∈S.B:=λt=>F_ _;have a:∀t,t∈S.B->@ite _ (t∈S.B) (b t) (aS Q Z<|S.rt<|ix S.B t) Q.top=aS Q Z (S.rt<|ix S.B t):=λt ht=>@if_pos _ (b t) ht _ _ _;have f:PostFix Q S.B T λt=>@ite _ (t∈S.B) (b t) (aS Q Z<|S.rt<|ix S.B t) Q.top:=by
  refine⟨λt=>?_,λt aj hR=>?_,λt ht=>?_⟩
  .by_cases ht:t∈S.B;.rw[a t ht];exact V.bt af _
   .rw[@if_neg _ (b t) ht];exact af.c9
  .refine(hR _<|ua h I r hT).elim (λe=>?_) λar=>aZ ar λJ L e=>?_;.rw[e]
   .rw[a t J,a aj L,e]
  .rw[a t ht,FJ λk X=>a k<|h.bk.cl t ht k X];have:=st (S.rt<|ix S.B t) (dW<|fY ht) (dV h.un.P _) (ix S.B t) t (eu ht) rfl;unfold a2 at this;rw[Fb,Fb]at this;exact this
 intro t ht;refine af.anti (V.bt af _) (A.ok t) ?_<|V.d4 af I (t_ hm A) (eu ht) (dV h.un.P _).symm<|dW<|fY ht;.have:=ab _ (t_ (λt=>(hm t).symm) f) t<|(hm t).mpr ht;rwa[a t ht]at this
theorem Cd(h:HS Y al S)(I:Inv S T)(r:S.W=[])(hT:∀d p,T d p->d∈S.B/\p∈S.B/\S.rt (ix S.B d)=S.rt (ix S.B p))(hm:∀t,t∈M↔t∈S.B)(aq:Hm M T hh)(H2:Cgr M T<|Rl M hh)(ha:d∈M)(hb:p∈M):hh d=hh p↔S.rt (ix S.B d)=S.rt (ix S.B p):=by
 constructor
 .intro e;refine(aq.snd _ (pq (λt=>(hm t).symm)<|ua h I r hT) d p ha hb e).elim (λe=>?_) λe=>?_;.rw[e]
  .exact e.2.2
 .intro e;refine(I.snd _ (pq hm H2) _ _ d p (eu<|(hm d).mp ha) (eu<|(hm p).mp hb) e).elim (λe=>?_) λe=>?_;.rw[e]
  .exact e.2.2
end
end
section
variable{β:Type}{Q:Dom β}{aa:β->V}{ar:Nat}{ay:List<|Nat×V}{T:Tm->Tm->Prop}
structure W2(D:Dom β)(enc:β->V)(cA:Nat)(fA:List<|Nat×V)(T:Tm->Tm->Prop)(A0:Ad)(O0:RH)(B:List Tm)(adr:Ad)(O:RH)(S:St)(Z:List<|Nat×β):Prop where
 hs:HS adr O S
 inv:Inv S T
 kp:Kp D enc cA fA adr O Z
 kv:KV D S T Z
 B:S.B=B
 n:S.n<=21
 dead:O 19=.none/\O 20=.none/\O 21=.none
 ea:∀r,r=0\/r=15\/r=16\/22<=r/\r<30->adr r=A0 r
 eo:∀r,r=16\/22<=r/\r<30->O r=O0 r
section
variable{G:Nat}{f:Ad}{I:RH}{B:List Tm}{Y:Ad}{al:RH}{S:St}{Z:List<|Nat×β}{H:Hp}{C:V->Hp->Prop}{t:Tm}
theorem KV.mono(V:KV Q S T Z)(h:M.B=S.B):KV Q M T Z:=⟨V.nd,λe he=>by show e.1<M.B.length;exact h▸V.lt e he,V.ok,λaz i e he t ht=>V.up az (h▸i) e he t<|h▸ht⟩
theorem W2.ig(A:W2 Q aa ar ay T f I B Y al S Z)(g:Went Y al S T O' M):W2 Q aa ar ay T f I B Y O' M Z:=by have u:∀o,¬(o<=14\/30<=o)->O' o=al o:=g.fr;refine⟨g.hs,g.inv,A.kp.frame λo O=>u o<|aB 0x1df7280f268e4839cb4520b4120b3d20 rfl O,A.kv.mono g.le.B,g.le.B.trans A.B,?_,⟨u 19 dd▸A.dead.1,u 20 dd▸A.dead.2.1,u 21 dd▸A.dead.2.2⟩,A.ea,λo O=>(u o<|aB 0x1df7280f268e4839baf920a02c9b4120 rfl O).trans<|A.eo o O⟩;.show M.B.length<=21;exact g.le.B▸A.n
theorem W2.heap(A:W2 Q aa ar ay T f I B Y al S Z)(R:Rp Y al H):∃dx fs,H (f 0)=j' (.inst 5 dx fs)/\∀l,l∈[64,68,88]->c7 fs l=.none:=by
 refine ax A.hs.h λdx hh=>?_;have:=R.get hh;rw[A.ea 0 dd]at this;refine dR dx _ this λl hn=>?_;rcases EG.mp hn with rfl|hn;.rfl
 .rcases EG.mp hn with rfl|hn;.rfl
  .exact ta.mp hn▸rfl
theorem W2.d5(A:W2 Q aa ar ay T f I B Y al S Z)(R:Rp Y al H):∃dx fs,H (f 15)=j' (.inst 2 dx fs)/\∀l,l∈[88,90]->c7 fs l=.none:=by
 refine ax A.kp.k λdx hh=>?_;have:=R.get hh;rw[A.ea 15 dd]at this;refine dR dx _ this λl hn=>?_;rcases EG.mp hn with rfl|hn;.rfl
 .exact ta.mp hn▸rfl
theorem pr(A:W2 Q aa ar ay T f I B Y al S Z)(R:Rp Y al H)(ht:t∈B)(hd:t.dp<=2)(q:C (.int (ix B t:Nat)) H):CN (G+5) 30 [.ref<|f 0,t.toV] H C:=by exact A.ea 0 dd▸z6 (G:=G) R A.hs 3 t (FD ‹_›) (A.B.symm▸ht) C (A.B.symm▸q)
theorem uc(A:W2 Q aa ar ay T f I B Y al S Z)(R:Rp Y al H)(hc:S.c+1<=100000)(q:∀O' H' M,Rp Y O' H'->W2 Q aa ar ay T f I B Y O' M Z->M.W=[]->Le S M->M.c=S.c->C .none H'):CN (G+5) 35 [.ref<|f 0] H C:=by exact A.ea 0 (zc 0x1ce7375f2409a01364da09026cf4813602409 [] rfl)▸z3 R A.hs A.inv hc λO' H' M K g e1 e2=>q O' H' M K (A.ig g) e2 g.le e1
theorem Ce(A:W2 Q aa ar ay T f I B Y al S Z)(R:Rp Y al H)(hc:S.c+1<=100000)(ha:d∈B)(hb:p∈B)(ht:T d p)(q:∀O' H' M v,Rp Y O' H'->W2 Q aa ar ay T f I B Y O' M Z->Le S M->M.c<=S.c+1->M.rt (ix B d)=M.rt (ix B p)->C v H'):CN (G+5) 33 [.ref<|f 0,.int (ix B d:Nat),.int (ix B p:Nat),rs] H C:=by rw[<-A.ea 0 dd];refine z2 (G:=G+1) R A.hs A.inv hc (i:=d) (j:=p) (A.B.symm▸eu ha) (A.B.symm▸eu hb) ht λO' H' M v K g e1 e2=>q O' H' M v K (A.ig g) g.le e1 e2
theorem ps(N:KAna Q aa ar ay)(A:W2 Q aa ar ay T f I B Y al S Z)(R:Rp Y al H)(q:∀ae O' H' Z',Rp ae O' H'->W2 Q aa ar ay T f I B ae O' S Z'->(∀c,c<S.n->S.rt c=c->mA Q S Z' c)->C .none H'):CN (G+6) 12 [.ref<|f 15] H C:=by exact A.ea 15 dd▸AN N R A.hs A.inv A.kp A.kv A.n A.dead.1 A.dead.2.1 A.dead.2.2 λae O' H' Z' K h' k' i st l M a b cL=>q ae O' H' Z' K ⟨h',A.inv,k',i,A.B,A.n,⟨a,b,cL⟩,λo O=>(l o<|aB 0xeef7bf5aa907ad4483d69a41eb4520e739baf920a02c9b4120b3d20b0120 rfl O).trans<|A.ea o O,λo O=>(M o<|aB 0xeef7bdfad5483d6a241eb4d20f5a2907acf4839baf920a02c9b4120 rfl O).trans<|A.eo o O⟩ st
theorem ud(N:KAna Q aa ar ay)(A:W2 Q aa ar ay T f I B Y al S Z)(R:Rp Y al H)(q:∀cs,cs.Pairwise (·<·)->(∀c,c∈cs↔c<S.n/\S.rt c=c/\aS Q Z c=Q.ah)->C (.lst<|aM cs) H):CN (G+3) 13 [.ref<|f 15] H C:=by exact A.ea 15 dd▸AA N R A.hs A.kp A.kv q
structure W1(D:Dom β)(enc:β->V)(cA:Nat)(fA:List<|Nat×V)(A0:Ad)(O0:RH)(adr:Ad)(O:RH)(S:St):Prop where
 ph:Ph1 adr O S
 kp:Kp D enc cA fA adr O []dead:O 19=.none/\O 20=.none/\O 21=.none
 ea:∀r,r=0\/r=15\/r=16\/22<=r/\r<30->adr r=A0 r
 eo:∀r,r=16\/22<=r/\r<30->O r=O0 r
theorem Cf(A:W1 Q aa ar ay f I Y al S)(R:Rp Y al H)(hd:t.dp<=2)(hl:(a9 t S.B).length<=21)(q:∀ae O' H' M v,Rp ae O' H'->W1 Q aa ar ay f I ae O' M->M.B=a9 t S.B->C v H'):CN (G+8) 30 [.ref<|f 0,t.toV] H C:=by rw[<-A.ea 0 dd];refine Aq (G:=G) 3 t (FD ‹_›) Y al H S C R A.ph hd hl λae O' H' M K j e l u=>?_;have u:∀o,¬(o<=14\/30<=o)->O' o=al o:=u;refine ax A.kp.k λdx X=>q ae O' H' M _ K ⟨j,⟨⟨dx,u 15 dd▸l 0 dd▸l 16 dd▸l 17 dd▸l 18 dd▸X⟩,u 16 dd▸A.kp.a,u 17 dd▸A.kp.v⟩,⟨u 19 dd▸A.dead.1,u 20 dd▸A.dead.2.1,u 21 dd▸A.dead.2.2⟩,λo O=>(l o<|aB 0x1daf920e739baf920a02c9b4120b3d20b0120 rfl O).trans<|A.ea o O,λo O=>(u o<|aB 0x1df7280f268e4839baf920a02c9b4120 rfl O).trans<|A.eo o O⟩ e
theorem W1.two(A:W1 Q aa ar ay f I Y al S):W2 Q aa ar ay T f I S.B Y al S []:=⟨A.ph.hs,Aw A.ph,A.kp,KV.nil,rfl,A.ph.n,A.dead,A.ea,A.eo⟩
theorem Cg(R:Rp Y al H)(hO:∀o,o≠16/\o≠22->al o=kf)(aJ:al 16=j' (.inst ar bg ay))(i:m 23=j' (.ref<|Y 16))(k:∀ae O' H',Rp ae O' H'->W1 Q aa ar ay ae O' ae O' S0->ae 16=Y 16/\ae 22=Y 22->O' 16=al 16/\O' 22=al 22/\O' 25=kf->aV tab (CN<|G+2) o ((m.set 22<|.ref<|ae 0).set 87<|.ref<|ae 15) H' A):aV tab (CN<|G+2) (.cons (.asg (.v 22)<|.new 5 .nil)<|.cons (.asg (.v 87)<|.new 2<|.cons (.v 22)<|.cons (.v 23) .nil) o) m H A:=by
 refine bG<|jv (c:=5) (w:=27) rfl<|aH λd dx ha hd K=>?_;rw[show V.ref d=.ref ((Y.upd 0 d) 0)by rw[Ad.ae]];refine Av ((R.dead hd .b9).new (o:=0) (d:=d) (by rw[Hp.af _ _ K];exact ha) (hO 0 dd)<|.inst 5 dx []) RH.ae (λo O h0=>by rw[RH.aa h0];exact hO o<|by have:o<=14\/30<=o:=O;exact aB 0x1ddfad6483d68241ca03c9a3920 rfl this) λan O2 H2 R2 P2 bh y=>⟨rfl,?_⟩;have a3:∀o,o=0\/¬(o<=14\/30<=o)->an o=(Y.upd 0 d) o:=bh;have a:∀o,¬(o<=14\/30<=o)->O2 o=al o:=λo O=>(y o O).trans<|RH.aa<|aB 0xefac0483dca03c9a3920 rfl O;rw[<-a3 0 dd];have hZ:an 16=Y 16:=by rw[a3 16 dd,Ad.aa dd]
 have bn:an 22=Y 22:=by rw[a3 22 dd,Ad.aa dd]
 refine bG<|jv (c:=2) (w:=9) rfl<|ap<|ac rfl<|ap<|ac i<|aH λp E hb r D=>?_;have u:∀o,o≠15->(an.upd 15 p) o=an o:=λo O=>Ad.aa O;have o3:∀o,o≠15->(O2.upd 15<|.inst 2 E []) o=O2 o:=λo O=>RH.aa O;rw[show V.ref p=.ref ((an.upd 15 p) 15)by rw[Ad.ae],<-hZ,<-u 16 dd,<-u 0 dd];refine AB (Q:=Q) (aa:=aa) (ar:=ar) (ay:=ay) (G:=G+1) ((R2.dead r .b9).new (o:=15) (d:=p) (by rw[Hp.af _ _ D];exact hb) (by rw[a 15 dd];exact hO 15 dd)<|.inst 2 E []) RH.ae (by rw[o3 _ dd,a _ dd];exact hO 17 dd) (by rw[o3 _ dd,a _ dd];exact hO 18 dd) (bg:=bg) (by rw[o3 _ dd,a _ dd];exact aJ) λn O4 H4 z s l M=>⟨rfl,?_⟩;have o4:∀o,o≠15/\o≠17/\o≠18->O4 o=O2 o:=λo O=>by rw[M o O,o3 o O.1]
 have j:∀o,o≠15/\o≠17/\o≠18->n o=an o:=λo O=>by rw[l o<|aB 0x1ddfad2483d68a41bdfad2483d68a41eb3d20 rfl O,u o O.1]
 have q:Ph1 n O4 S0:=by
  have O:∀o,HR o->o≠15/\o≠17/\o≠18:=λo O=>by have:o<=14\/30<=o:=O;exact aB 0x777bf5a4907ad1483d67a41ca03c9a3920 rfl this
  exact⟨P2.hs.frame (λo h=>j o<|O o h) λo h=>o4 o<|O o h,P2.par,P2.ak,P2.Kk,P2.W,P2.c,P2.n,P2.dp,P2.d8,by refine b5 P2.ref λN J L b e=>⟨N,by rw[o4 13 dd];exact J,L,b,λo m hl=>aP hl⟩,P2.tot,by rw[o4 5 dd];exact P2.i0,by refine aA P2.iy λds J L=>?_;exact⟨ds,by rw[o4 6 dd];exact J,L⟩,λo h=>by have h':30<=o:=h;rw[o4 o<|aB 0x3bbdfad2483d68a41eb3d20a03c9 rfl h'];exact P2.dead o h⟩
 rw[show(an.upd 15 p) 0=n 0 by rw[j 0 dd,u 0 dd],<-l 15 dd];refine k n O4 H4 z ⟨q,s,⟨?_,?_,?_⟩,λe e=>rfl,λe e=>rfl⟩ ⟨?_,?_⟩ ⟨?_,?_,?_⟩;.rw[o4 19 dd,a _ dd];exact hO 19 dd
 .rw[o4 20 dd,a _ dd];exact hO 20 dd
 .rw[o4 21 dd,a _ dd];exact hO 21 dd
 .rw[j 16 dd,hZ]
 .rw[j 22 dd,bn]
 .rw[o4 16 dd,a _ dd]
 .rw[o4 22 dd,a _ dd]
 .rw[o4 25 dd,a _ dd];exact hO 25 dd
end
end
section
variable{T:Tm->Tm->Prop}
section
variable{Z:List<|Nat×β}{H:Hp}{C:V->Hp->Prop}{t:Tm}
structure LF(A0:Ad)(ag:List<|Tm×Tm)(S:List Tm)(h:Tm->Nat)(due:List Nat)(late:Bool)(l:aL):Prop where fv:l 22=some (.ref<|A0 0)gq:l 87=some (.ref<|A0 15)er:l 24=some (.lst<|cE ag)cu:l 15=some (.lst<|S.map Tm.toV)cq:l 76=some (.br<|cv S h)gz:l 85=some (.lst<|aM due)ib:l 86=some (.bool late)
theorem LF.set{ag:List<|Tm×Tm}{S:List Tm}{h:Tm->Nat}{ao:List Nat}{bc:Bool}{m:aL}(w:LF f ag S h ao bc m){i:Nat}(hi:i≠22/\i≠87/\i≠24/\i≠15/\i≠76/\i≠85/\i≠86)(v:V):LF f ag S h ao bc<|m.set i v:=by
 refine⟨?_,?_,?_,?_,?_,?_,?_⟩;.rw[aL.af _ _<|by exact aB 0x77d60593bdef7bdfac2b281eb0aaa07ac26281eb3d20f5b0907ac2ba81eb5920 rfl hi];exact w.fv
 .rw[aL.af _ _<|by exact aB 0xefac015d5bdef7bdfac2b281eb0aaa07ac26281eb3d20f5b0907ac2ba81eb5920 rfl hi];exact w.gq
 .rw[aL.af _ _<|by exact aB 0x77d60613bdef7bdfac2b281eb0aaa07ac26281eb3d20f5b0907ac2ba81eb5920 rfl hi];exact w.er
 .rw[aL.af _ _<|by exact aB 0x77d603d3bdef7bdfac2b281eb0aaa07ac26281eb3d20f5b0907ac2ba81eb5920 rfl hi];exact w.cu
 .rw[aL.af _ _<|by exact aB 0xefac01315bdef7bdfac2b281eb0aaa07ac26281eb3d20f5b0907ac2ba81eb5920 rfl hi];exact w.cq
 .rw[aL.af _ _<|by exact aB 0xefac01555bdef7bdfac2b281eb0aaa07ac26281eb3d20f5b0907ac2ba81eb5920 rfl hi];exact w.gz
 .rw[aL.af _ _<|by exact aB 0xefac01595bdef7bdfac2b281eb0aaa07ac26281eb3d20f5b0907ac2ba81eb5920 rfl hi];exact w.ib
theorem ue:∀ks af,af.length<=(c5 ks af).length:=by intro v;induction v with|nil=>intro g;exact EM _|cons k ks ih=>intro af;exact ED (oR k af)<|ih<|a9 k af
theorem Ch{i:Nat}{l:Nat}(E:∀P,P (.int (l:Nat)) H->am tab ab x m H P)(hn:l<10)(q:C (.str [48+l]) H):am tab ab (.toStr x) m H C:=E _ ⟨Gh _,aB 0x3b852640aa920 rfl hn,q⟩
theorem Ci{r t:List Nat}{P:V->Prop}(hl:(r++t).length<=1000)(q:P<|.str<|r++t):fd H .add (.str r) (.str t) P:=⟨a0 hl,q⟩
def RI(Q:Dom β)(aa:β->V)(ar:Nat)(ay:List<|Nat×V)(T:Tm->Tm->Prop)(f:Ad)(I:RH)(B:List Tm)(ag:List<|Tm×Tm)(M:List Tm)(h:Tm->Nat)(ao:List Nat)(bc:Bool)(as:List<|(Tm×Tm)×Nat)(m:aL)(H':Hp):Prop:=∃ae O' D Z' k,as=(ag.drop k).zipIdx k/\Rp ae O' H'/\W2 Q aa ar ay T f I B ae O' D Z'/\D.c<=90000+k/\k<=ag.length/\LF f ag M h ao bc m/\∀a j,a<k->ag[a]?=j' j->D.rt (ix B j.1)=D.rt (ix B j.2)
theorem RI.mk{D:St}(e:as=(ag.drop k).zipIdx k)(R:Rp ae O' H')(A:W2 Q aa ar ay T f I B ae O' D Z')(hc:D.c<=90000+k)(X:k<=ag.length)(w:LF f ag M h ao bc m)(g:∀a j,a<k->ag[a]?=j' j->D.rt (ix B j.1)=D.rt (ix B j.2)):RI Q aa ar ay T f I B ag M h ao bc as m H':=⟨ae,O',D,Z',k,e,R,A,hc,X,w,g⟩
theorem Cj(N:KAna Q aa ar ay){ts:List Tm}{ag:List<|Tm×Tm}{M:List Tm}{h:Tm->Nat}{ao:List Nat}{bc:Bool}{m:aL}{Kk:Fl->aL->Hp->Prop}(hT:∀d p,(d,p)∈ag->T d p)(ab:∀j∈ag,j.1∈B/\j.2∈B/\j.1.dp<=2/\j.2.dp<=2)(hl:ag.length<=9)(A:W2 Q aa ar ay T f I B Y al S Z)(R:Rp Y al H)(hc:S.c<=90000)(w:LF f ag M h ao bc m)(k:∀ae O' H' D Z' l',Rp ae O' H'->W2 Q aa ar ay T f I B ae O' D Z'->D.c<=99000->LF f ag M h ao bc l'->(∀j∈ag,D.rt (ix B j.1)=D.rt (ix B j.2))->Kk .nx l' H'):fN (aV tab (CN<|G+8)<|.cons (.ex<|.ai (.v 22) 68<|.cons (.ai (.v 22) 64<|.cons (.v 7) .nil)<|.cons (.ai (.v 22) 64<|.cons (.v 8) .nil)<|.cons (.tup<|.cons (.k<|.str [116,111,108,100])<|.cons (.bin .add (.k<|.str [116])<|.toStr<|.v 78) .nil) .nil)<|.cons (.be (.not<|.x<|.v 86) (.cons (.ex<|.ai (.v 22) 88 .nil)<|.cons (.ex<|.ai (.v 87) 88 .nil) .nil) .nil) .nil) (bY tab (CN<|G+8)<|.t<|.cons (.v 78)<|.cons (.t<|.cons (.v 7)<|.cons (.v 8) .nil) .nil) (eR 0<|cE ag) m H Kk:=by
 rw[show cE ag=ag.map λj=>V.tup [j.1.toV,j.2.toV]from rfl,pj];refine e5 (λj:(Tm×Tm)×Nat=>V.tup [.int (j.2:Nat),.tup [j.1.1.toV,j.1.2.toV]]) (RI Q aa ar ay T f I B ag M h ao bc) (.mk (k:=0) (by rw[Lb]) R A hc (E8 _) w λa j h=>aJ h<|GB _) ?_ ?_
 .intro s as m H' z2 K' av;refine g1 z2 λae O' D Z' z3=>pJ z3 λk b K w' am X w aB=>?_;clear z2;rcases s with⟨⟨d,p⟩,at_⟩;have e:k<ag.length:=by
   by_cases c:k<ag.length;.exact c
   .rw[G5<|Gf.mp c]at b;cases b
  have aQ:ag[k]?=j' ag[k]:=EL e;rw[GH e]at b;injection b with e1 b;injection e1 with e1 e2;rw[<-e1]at aQ;subst e2;refine bM (ab (d,p)<|E0 aQ) λha hb o E=>?_;have f2:=((w.set (i:=78) dd<|.int (at_:Nat)).set (i:=7) dd d.toV).set (i:=8) dd p.toV;refine bn (w'.heap K) λdx fs g0 aA=>⟨rfl,rfl,rfl,rfl,?_⟩;refine co<|bE f2.fv g0 (aA 68 dd) rfl<|ap<|bE f2.fv g0 (aA 64 dd) rfl<|ap<|ac rfl<|aH<|pr (G:=G+3) w' K ha o<|ap<|bE f2.fv g0 (aA 64 dd) rfl<|ap<|ac rfl<|aH<|pr (G:=G+3) w' K hb E ?_;refine ap<|bO<|ap<|aG<|ap<|bF<|aG<|Ch (i:=0) (l:=at_) (λP j=>ac rfl j) (aE 0x1ded5490d401a2520 rfl hl e)<|Ci (show 2<=1000 by decide)<|aH<|aH ?_;refine Ce (G:=G+3) w' K (aT 0x77bda0c350116e0a43500a8e10afc81161a2520 rfl hl am e) ha hb (hT d p<|E0 aQ) λO3 H3 S3 v R3 w3 q n u=>bn (w3.heap R3) λbm aY g3 aZ=>?_;have aP:∀a j,a<at_+1->ag[a]?=j' j->S3.rt (ix B j.1)=S3.rt (ix B j.2):=λa j hj hp=>by
   rcases Mt.mp hj with hj|rfl;.exact q.rt _ _<|aB a j hj hp
   .rw[aQ]at hp;obtain rfl:=EA hp;exact u
  refine bA<|jw<|gW f2.ib ?_;induction bc with|true=>exact show(if EF=Do then _ else _:Prop)from a3<|b6<|av _ _<|.mk b R3 w3 (aT 0x77b47382908afc81162a382900a8e08afc81160 rfl am n) e f2 aP|false=>refine show(if Do=Do then _ else _:Prop)from a1<|co<|bE f2.fv g3 (aZ 88 dd) rfl<|aH<|uc (G:=G+3) w3 R3 (cy 0x3bdef6830d4045b8291d1c14847500a8e10afc81161a2520 rfl hl am e n) λO4 H4 S4 z y r a2 a8=>?_;refine bn (y.d5 z) λbQ bp ad a5=>co<|bE f2.gq ad (a5 88 dd) rfl<|aH<|ps (G:=G+2) N y z λJ O5 H5 Z5 R5 w5 st=>b6<|b6<|av _ _<|.mk b R5 w5 (cy 0x77bda39c148457e408b1d843a382900a8e08afc81160 rfl am n a8) e f2 λa j hj hp=>a2.rt _ _<|aP a j hj hp
 .intro m H' s;refine g1 s λae O' D Z' z2=>pJ z2 λk' b K w' am X w aB=>?_;have e:¬k'<ag.length:=λc=>by rw[GH c]at b;cases b
  refine k ae O' H' D Z' m K w' (aT 0xef7b4182b822c3400a8e10afc81161a2520 rfl hl am X) w λj hp=>ax (Gj.mp hp) λa hj=>aB a j (Ew (EN.mp hj).1<|Gf.mp e) hj
end
end
section
variable{T:Tm->Tm->Prop}
section
variable{B:List Tm}{Y:Ad}{al:RH}{S:St}{Z:List<|Nat×β}{H:Hp}{C:V->Hp->Prop}{t:Tm}
noncomputable def dN:Dom Nat:={ok:=λp=>True,le:=λp p=>True,meet:=λd p=>d,F:=λp p=>0,top:=0,ah:=0,rk:=λp=>0}
noncomputable def eA(l:Nat):V:=.int (l:Nat)
theorem Cm(h:c∉Z.map Fe):dget (a' aa Z) (.int (c:Nat))=none:=by induction Z with|nil=>rfl|cons e Z ih=>obtain⟨k,x⟩:=e;show(if V.int (k:Nat)=V.int (c:Nat)then j' (aa x)else dget (a' aa Z)<|.int (c:Nat))=none;refine(aC<|iM λe=>h<|by rw[<-show k=c from e];exact Eu).trans ?_;exact ih λx=>h<|Ev _ x
theorem W2.side(A:W2 Q aa ar ay T f I B Y al S Z)(d:Nat)(D:c2):W2 Q aa ar ay T (f.upd 25 d) (I.upd 25 D) B (Y.upd 25 d) (al.upd 25 D) S Z:=by
 have l:∀o,o≠25->(Y.upd 25 d) o=Y o:=λo O=>Ad.aa O;have M:∀o,o≠25->(al.upd 25 D) o=al o:=λo O=>RH.aa O;refine ax A.kp.k λdx X=>?_;refine⟨A.hs.frame (λo O=>l o λe=>by have:o<=14\/30<=o:=O;exact aB 0xef75ca03c9a3920b6520 rfl e this) λo O=>M o λe=>by have:o<=14\/30<=o:=O;exact aB 0xef75ca03c9a3920b6520 rfl e this,A.inv,⟨⟨dx,M 15 dd▸l 0 dd▸l 16 dd▸l 17 dd▸l 18 dd▸X⟩,M 16 dd▸A.kp.a,(M 17 dd).trans A.kp.v⟩,A.kv,A.B,A.n,⟨(M 19 dd).trans A.dead.1,(M 20 dd).trans A.dead.2.1,(M 21 dd).trans A.dead.2.2⟩,λo O=>?_,λo O=>?_⟩
 .by_cases e:o=25;.rw[e,Ad.ae,Ad.ae]
  .exact Ad.aa e▸Ad.aa e▸A.ea o O
 .by_cases e:o=25;.rw[e,RH.ae,RH.ae]
  .exact RH.aa e▸RH.aa e▸A.eo o O
theorem Cn{ab:CW}{m:aL}{D k dd:an}{ov kv j:V}{f:List<|V×V}(a:cU H ov=j' f)(ho:∀P,P ov H->am tab ab D m H P)(X:∀P,P kv H->am tab ab k m H P)(hd:∀P,P j H->am tab ab dd m H P)(hf:bD f kv)(q:C ((dget f kv).getD j) H):am tab ab (.dm D k dd) m H C:=ho _ ⟨⟨f,a⟩,X _<|hd _<|by show av (cU H ov) _;exact a▸⟨hf,q⟩⟩
set_option tactic.hygienic true in
theorem Co{Kk:Fl->aL->Hp->Prop}(z:∀t∈M,t.dp<=2)(hl:M.length<=60)(hm:∀t,t∈M->t∈B)(A:W2 Q aa ar ay T f I B Y al S Z)(D:c2)(w:LF f ag M h ao bc m)(aG:m 89=j' (.ref<|Y 25))(R:Rp Y (al.upd 25<|.dict<|a' eA []) H)(k:∀an H' l',Rp Y (al.upd 25<|.dict<|a' eA an) H'->LF f ag M h ao bc l'->l' 89=j' (.ref<|Y 25)->(∀t∈M,h t∈an.map Fe/\aS dN an (h t)<=ix B t)->(∀c∈an.map Fe,∃t∈M,h t=c/\aS dN an c=ix B t)->Kk .nx l' H'):fN (aV tab (CN<|G+8)<|.cons (.asg (.sub (.v 89)<|.sub (.v 76)<|.v 7)<|.mm EF<|.cons (.dm (.v 89) (.sub (.v 76)<|.v 7)<|.g 80 1000000)<|.cons (.ai (.v 22) 64<|.cons (.v 7) .nil) .nil) .nil) (bY tab (CN<|G+8)<|.v 7) (M.map Tm.toV) m H Kk:=by
 have q:∀an,W2 Q aa ar ay T f (I.upd 25<|.dict<|a' eA an) B Y (al.upd 25<|.dict<|a' eA an) S Z:=λan=>by
  have:=A.side (Y 25)<|.dict<|a' eA an;have e1:Y.upd 25 (Y 25)=Y:=by
   funext o;by_cases e:o=25;.rw[e,Ad.ae]
   .rw[Ad.aa e]
  have e2:f.upd 25 (Y 25)=f:=by
   funext o;by_cases e:o=25;.exact e.symm▸A.ea 25 dd
   .rw[Ad.aa e]
  rw[e1,e2]at this;exact this
 refine e5 Tm.toV (λas m H'=>∃P an,M=P++as/\Rp Y (al.upd 25<|.dict<|a' eA an) H'/\LF f ag M h ao bc m/\m 89=j' (.ref<|Y 25)/\an.length<=P.length/\(an.map Fe).Nodup/\(∀t∈P,h t∈an.map Fe/\aS dN an (h t)<=ix B t)/\∀c∈an.map Fe,∃t∈P,h t=c/\aS dN an c=ix B t) ⟨[],[],rfl,R,w,aG,EM _,Hu,λt h=>(Ez h).elim,λc h=>(Ez h).elim⟩ ?_ ?_
 .intro t as m H' s K' av;refine jV s λP an O K w aG aw nd z2=>aN z2 λhP l=>?_;have b:t∈M:=O▸Fz _ Eu;have y:=z t b;have f2:=w.set (i:=7) dd t.toV;have aK:(m.set 7 t.toV) 89=j' (.ref<|Y 25):=aG;have aQ:=K.get RH.ae;refine bn ((q an).heap K) λdx fs g0 aA=>?_;have E:ix B t<64:=by have:=fY<|hm t b;have:=A.hs.bk.bq;rw[A.B]at this;exact GA ‹_› ‹_›
  have r:∀P,P (.int (h t:Nat)) H'->am tab (CN<|G+8) (.sub (.v 76)<|.v 7) (m.set 7 t.toV) H' P:=λP j=>aX<|ac f2.cq<|ac rfl<|hV z b j;have N:P.length<=60:=by rw[O,EH]at hl;exact aE 0x1da078a0503c53820 rfl hl
  have LO:∀u,(h t∈an.map Fe->u=min (aS dN an<|h t) (ix B t))/\(h t∉an.map Fe->u=ix B t)->bY tab (CN<|G+8) (.sub (.v 89)<|.sub (.v 76)<|.v 7) (.int (u:Nat)) (m.set 7 t.toV) H' λm H=>aV tab (CN<|G+8) .nil m H K':=λu hy=>by
   refine gQ<|ac aK<|r _<|hN aQ (cC (ec eA an) _) (a0<|by unfold a';rw[Ex];exact aE 0x77b4fa140a078a0d020 rfl aw N) ?_;have R2:=K.set RH.ae<|.dict<|bC (a' eA an) (.int (h t:Nat))<|eA u;rw[iN,iP]at R2;rw[show V.int (u:Nat)=eA u from rfl,iN];have ek:=k3 an (h t) u;have mem:∀c,c∈(cJ an (h t) u).map Fe↔c∈an.map Fe\/c=h t:=λc=>by
    rw[ek];split;.next aI=>exact⟨.inl,λh=>h.elim id λe=>e▸aI⟩
    .rw[E1,ta]
   have a1:u<=ix B t/\(h t∈an.map Fe->u<=aS dN an (h t)):=by
    by_cases c:h t∈an.map Fe;.exact⟨hy.1 c▸Nat.min_le_right _ _,λa=>hy.1 c▸ME _ _⟩
    .have:=hy.2 c;exact⟨Hx ‹_›,λx=>aJ x c⟩
   refine b6<|av _ _ ⟨P++[t],cJ an (h t) u,by rw[FS];exact O,R2,f2,aK,?_,?_,λaj hu=>?_,λc hc=>?_⟩
   .have e:=aY Hk ek;rw[Ex]at e;rw[e,EH];split;.rw[Ex];exact ED ‹_›<|EB _ _
    .rw[EH,Ex];exact FD ‹_›
   .rw[ek];split;.exact nd
    .next hn=>exact Gd.mpr ⟨nd,FW _ _,λd ha p hb e=>hn<|by rw[ta.mp hb]at e;exact e▸ha⟩
   .rw[mem,hk];refine(E1.mp hu).elim (λhu=>?_) λhu=>?_
    .refine aN (hP aj hu) λJ L=>⟨.inl J,?_⟩;by_cases c:h t=h aj;.exact aF c▸ED (c▸a1.2 (by rw[c];exact J)) L
     .exact aC c▸L
    .exact(ta.mp hu).symm▸(aF rfl).symm▸⟨.inr rfl,a1.1⟩
   .rw[hk];by_cases c':h t=c
    .rw[aF c'];by_cases n:h t∈an.map Fe
     .refine a4 (l _ n) λaj hu e1 e2=>?_;have:=hy.1 n;refine(Jm (aS dN an<|h t)<|ix B t).elim (λx=>?_) λx=>?_;.exact gb aj (FK _ hu) (e1.trans c')<|(this.trans<|IZ x).trans e2
      .exact gb t (Fz _<|ta.mpr rfl) c'<|this.trans<|IG x
     .exact gb t (Fz _<|ta.mpr rfl) c'<|hy.2 n
    .rw[aC c'];refine a4 (l c<|((mem c).mp hc).resolve_right λe=>c' e.symm) λaj hu e1 e2=>gb aj (FK _ hu) e1 e2
  refine b4<|f0<|ap<|Cn (gE aQ) (λP j=>ac aK j) r (λP j=>g9 j) (cC (ec eA an) _)<|ap<|bE f2.fv g0 (aA 64 dd) rfl<|ap<|ac rfl<|aH<|pr (G:=G+3) (q an) K (hm t b) y<|aH ?_;by_cases c:h t∈an.map Fe;.rw[i4 (Q:=dN) c];refine gV ?_;have:=LO (min (aS dN an<|h t)<|ix B t) ⟨λa=>rfl,λx=>aJ c x⟩;rw[show((min (aS dN an<|h t)<|ix B t:Nat):Int)=min ((aS dN an<|h t:Nat):Int) (ix B t:Nat)by exact aE 0x3309064094020 rfl]at this;exact this
  .rw[Cm c];refine gV ?_;have:=LO (ix B t) ⟨λx=>aJ x c,λa=>rfl⟩;show bY tab _ _ (.int<|min (1000000:Int) (ix B t:Nat)) _ _ _;exact(show min (1000000:Int) (ix B t:Nat)=(ix B t:Nat)by exact aB 0x3b99021207a120117510140 rfl E).symm▸this
 .intro m H' s;refine jV s λP an O K w aG a a z2=>aN z2 λhP l=>?_;rw[FR]at O;clear a z2;subst O;exact k an H' m K w aG hP l
end
end
section
variable{T:Tm->Tm->Prop}
theorem uf{as f:List Nat}(ha:as.Pairwise (·<·))(hb:f.Pairwise (·<·))(h:∀x,x∈as↔x∈f):as=f:=List.Perm.eq_of_pairwise (le:=(·<·)) (λd p c c x u=>aJ x<|Nat.lt_asymm u) ha hb<|(LR (ha.imp EP)<|hb.imp EP).mpr h
theorem Cp{as:List Nat}(h:as.Pairwise (·<=·))(l:as.Nodup):as.Pairwise (·<·):=by induction as with|nil=>exact .nil|cons d as ih=>refine aN (If.mp h) λJ L=>aN (FH.mp l) λj n2=>If.mpr ⟨λp hb=>Ig (J p hb) λe=>j<|e▸hb,ih L n2⟩
theorem Cq{α β:Type}{w:α->β}{as:List α}(l:as.Nodup)(h:∀d∈as,∀p∈as,w d=w p->d=p):(as.map w).Nodup:=by induction as with|nil=>exact .nil|cons d as ih=>refine aN (FH.mp l) λj n2=>FH.mpr ⟨λE=>?_,ih n2 λx E u hy=>h x (Ev _ E) u<|Ev _ hy⟩;refine aA (EO.mp E) λp hb e=>j<|h p (Ev _ hb) d Eu e▸hb
section
variable{t:Tm}
structure Same(S:St)(S':List Tm)(h:Tm->Nat):Prop where
 fm:S.B.Nodup
 par:Par S.par S.n
 mem:∀t,t∈S'↔t∈S.B
 fi:∀a∈S',∀b∈S',h a=h b↔S.rt (ix S.B a)=S.rt (ix S.B b)
theorem Same.cl{M:List Tm}{h:Tm->Nat}(r:Same S M h){aw:Tm->β}(k:∀t∈S.B,aS Q Z (S.rt<|ix S.B t)=aw t){x:Nat}:x<S.n/\S.rt x=x/\aS Q Z x=Q.ah↔∃t∈M,aw t=Q.ah/\S.rt (ix S.B t)=x:=by
 constructor;.intro s;refine aZ s λJ L b=>?_;have hg:S.B[x]?=j' S.B[x]:=EL J;have hu:S.B[x]∈S.B:=IM J;have e:=oC r.fm hg;have kk:=k _ hu;rw[e,L]at kk;exact gb S.B[x] ((r.mem _).mpr hu) (kk▸b)<|by rw[e,L]
 .intro s;refine a4 s λt ht J z2=>?_;clear s;subst z2;have ab:=(r.mem t).mp ht;exact⟨dW<|fY ab,dV r.par _,(k t ab).trans J⟩
theorem Same.low{M:List Tm}{h:Tm->Nat}(r:Same S M h){an:List<|Nat×Nat}(J:∀t∈M,h t∈an.map Fe/\aS dN an (h t)<=ix S.B t)(L:∀c∈an.map Fe,∃t∈M,h t=c/\aS dN an c=ix S.B t){t:Tm}(ht:t∈M):aS dN an (h t)=S.rt (ix S.B t):=by have ad:S.rt (ix S.B t)<S.B.length:=dW<|fY<|(r.mem t).mp ht;have hg:S.B[S.rt<|ix S.B t]?=j' S.B[S.rt<|ix S.B t]:=EL ad;have hu:S.B[S.rt<|ix S.B t]∈M:=(r.mem _).mpr<|IM ad;have e:=oC r.fm hg;have hh:h S.B[S.rt<|ix S.B t]=h t:=(r.fi _ hu t ht).mpr<|e.symm▸dV r.par _;have le:=(J _ hu).2;rw[e,hh]at le;refine a4 (L _ (J t ht).1) λaj a e2 e3=>?_;have:=sw S.par<|ix S.B aj;have e5:bW S.par (ix S.B aj)=bW S.par (ix S.B t):=(r.fi aj a t ht).mp e2;rw[e5]at this;rw[e3]at le⊢;exact JE le this
theorem Same.lows{M:List Tm}{h:Tm->Nat}(r:Same S M h){an:List<|Nat×Nat}(J:∀t∈M,h t∈an.map Fe/\aS dN an (h t)<=ix S.B t)(L:∀c∈an.map Fe,∃t∈M,h t=c/\aS dN an c=ix S.B t){aw:Tm->β}(k:∀t∈S.B,aS Q Z (S.rt<|ix S.B t)=aw t){ao ms cs:List Nat}(nd:ao.Nodup)(hd:∀c,c∈ao↔∃t∈M,h t=c/\aw t=Q.ah)(mp:ms.Perm<|ao.map λc=>aS dN an c)(b:ms.Pairwise (·<=·))(f:cs.Pairwise (·<·))(hc:∀c,c∈cs↔c<S.n/\S.rt c=c/\aS Q Z c=Q.ah):cs=ms:=by
 have a:(ao.map λc=>aS dN an c).Nodup:=Cq nd λd ha p hb e=>by refine a4 ((hd d).mp ha) λt ht s G=>?_;clear ha;subst s;refine a4 ((hd p).mp hb) λaj hu s G=>?_;clear hb;subst s;have e:aS dN an (h t)=aS dN an (h aj):=e;rw[r.low J L ht,r.low J L hu]at e;exact(r.fi t ht aj hu).mpr e
 refine uf f (Cp b<|mp.nodup_iff.mpr a) λx=>?_;rw[hc,r.cl k,mp.mem_iff,EO];constructor;.intro s;refine a4 s λt ht hm z2=>?_;clear s;subst z2;exact bm (h t) ((hd _).mpr ⟨t,ht,rfl,hm⟩)<|r.low J L ht
 .intro s;refine aA s λc m e=>?_;refine a4 ((hd c).mp m) λt ht s hm=>?_;clear m;subst s;exact gb t ht hm<|(r.low J L ht).symm.trans e
theorem Cr(k:∀d,H d=kf->C (.ref d) (H.set d<|.dict [])):am tab ab .bf m H C:=k
end
end
section
variable{T:Tm->Tm->Prop}
section
variable{t:Tm}
theorem W1.heap(A:W1 Q aa ar ay f I Y al S)(R:Rp Y al H):∃dx fs,H (f 0)=j' (.inst 5 dx fs)/\c7 fs 64=.none:=by refine ax A.ph.hs.h λdx hh=>?_;have:=R.get hh;rw[A.ea 0 dd]at this;exact dR dx _ this rfl
theorem Ct(z:List V):∀l,(eR l z).length=z.length:=by induction z with|nil=>exactλd=>rfl|cons x z ih=>exactλl=>aY (·+1)<|ih<|l+1
theorem ug(N:KAna Q aa ar ay)(a_:∀t∈ts,t.dp<=2)(X:ts.length<=3)(dS:∀t∈M,t.dp<=2)(lS:M.length<=60)(hm:∀t,t∈M↔t∈c5 ts [])(hT:∀d p,T d p↔(d,p)∈ag)(E:∀j∈ag,j.1∈M/\j.2∈M)(lT:ag.length<=9)(HM:Hm M T h)(HC:Cgr M T<|Rl M h)(A:PostFix Q M T aw)(ab:∀az,PostFix Q M T az->∀t∈M,Q.le (az t)<|aw t)(nd:ao.Nodup)(ld:ao.length<=60)(hd:∀c,c∈ao↔∃t∈M,h t=c/\aw t=Q.ah)(R:Rp Y al H)(hO:∀o,o≠16/\o≠22->al o=kf)(aJ:al 16=j' (.inst ar bg ay))(q:∀ae O' H',Rp ae O' H'->ae 16=Y 16/\ae 22=Y 22->O' 16=al 16/\O' 22=al 22->C (.bool Do) H'):CN (G+9) 52 [.lst<|ts.map Tm.toV,.lst<|cE ag,.lst<|M.map Tm.toV,.br<|cv M h,.lst<|aM ao,.ref<|Y 16,.bool bc] H C:=by
 refine a6 (fn:=qN) rfl rfl<|Cg (Q:=Q) (aa:=aa) (ar:=ar) (ay:=ay) (G:=G+6) R hO aJ rfl λf n aq R1 a e1 o1=>?_;have aW:(c5 ts []).length<=21:=by have:=(m3 (ts:=ts) (af:=[]) Hu λg h=>(Ez h).elim).2.2.2 a_;have:(c5 ts []).length<=0+7*ts.length:=this;exact aE 0x77b4aa4347300748121a0d20 rfl X this
 refine e4<|ce<|ac rfl ⟨a0<|by rw[Ex];exact ED ‹_› dd,e5 Tm.toV (λas m H'=>LF f ag M h ao bc m/\∃ae O' D,Rp ae O' H'/\W1 Q aa ar ay f n ae O' D/\c5 as D.B=c5 ts []/\∀t∈as,t.dp<=2) ⟨⟨rfl,rfl,rfl,rfl,rfl,rfl,rfl⟩,f,n,S0,R1,a,rfl,a_⟩ ?_ ?_⟩;.intro t as m H' s K' av;refine aN s λw z2=>dJ z2 λae O' D K w' aC aO=>?_;have f2:=w.set (i:=62) dd t.toV;refine bn (w'.heap K) λdx fs g0 aA=>?_;have hl:(a9 t D.B).length<=21:=ED (ue as _)<|(show c5 as (a9 t D.B)=_ from aC).symm▸aW;exact co<|bE f2.fv g0 aA rfl<|ap<|ac rfl<|aH<|Cf (G:=G) w' K (aO t Eu) hl λaD O3 H3 S3 v R3 w3 e3=>b6<|av _ _ ⟨f2,aD,O3,S3,R3,w3,e3▸aC,λaj hu=>aO aj<|Ev _ hu⟩
 .intro m H' s;refine aN s λw z2=>dJ z2 λae O' D K w' aC g=>?_;have aC:D.B=c5 ts []:=aC;have aR:∀t,t∈M↔t∈D.B:=λt=>aC▸hm t;have c2:D.c<=90000:=by have L:=w'.ph.n;have:=J0 L L;exact aT 0x77bda0afc81160a32a9aa434aa4547098132140 rfl w'.ph.c L this
  refine e4<|pk w.er ⟨a0<|by rw[Ct];unfold cE;rw[Ex];exact ED ‹_› dd,Cj (G:=G) (ts:=ts) N (λd p h=>(hT d p).mpr h) (λj hp=>⟨(aR _).mp (E j hp).1,(aR _).mp (E j hp).2,dS _ (E j hp).1,dS _ (E j hp).2⟩) lT (w'.two (T:=T)) K c2 w λaD O3 H3 S3 Z3 l3 R3 w3 am u aP=>?_⟩;refine bn (w3.heap R3) λbm aY g3 aZ=>co<|bE u.fv g3 (aZ 88 dd) rfl<|aH<|uc (G:=G+3) w3 R3 (ER ‹_› dd) λO4 H4 S4 z y r a2 a8=>?_;refine bn (y.d5 z) λbQ bp ad a5=>co<|bE u.gq ad (a5 88 dd) rfl<|aH<|ps (G:=G+2) N y z λJ O5 H5 Z5 R5 w5 bq=>bG<|Cr λd ha=>?_;have ba:LF (f.upd 25 d) ag M h ao bc<|l3.set 89<|.ref d:=by have aB:=u.set (i:=89) dd<|.ref d;exact⟨aB.fv,aB.gq,aB.er,aB.cu,aB.cq,aB.gz,aB.ib⟩
  have bs:(J.upd 25 d) 25=d:=Ad.ae;refine e4<|ce<|ac ba.cu ⟨a0<|by rw[Ex];exact ED ‹_› dd,Co (G:=G) dS lS (λt ht=>(aR t).mp ht) (w5.side d<|.dict<|a' eA []) (.dict<|a' eA []) ba (bs▸rfl) (iP.symm▸(R5.new ha ((w5.eo 25 dd).trans o1.2.2)<|.dict<|a' eA [])) λan H7 l7 I ax aG X1 X2=>?_⟩;rw[iP]at I;have w7:=w5.side d<|.dict<|a' eA an;refine bn (w7.d5 I) λbB bC g7 bb=>bG<|bE ax.gq g7 (bb 90 dd) rfl<|aH<|ud (G:=G+5) N w7 I λbd bh bj=>?_;have aV:=ax.set (i:=35) dd<|.lst<|aM bd;refine co<|bE aV.gq g7 (bb 88 dd) rfl<|aH<|ps (G:=G+2) N w7 I λa3 O9 H9 Z9 R9 S bt=>?_;have aK:(l7.set 35<|.lst<|aM bd) 89=j' (.ref<|a3 25):=by rw[aL.af _ _ dd,S.ea 25 dd,aG,Ad.ae,Ad.ae]
  have aQ:H9 (a3 25)=j' (.dict<|a' eA an):=R9.get<|(S.eo 25 dd).trans RH.ae;have Z:S4.B=D.B:=y.B;have aF:∀t,t∈M↔t∈S4.B:=λt=>Z▸aR t;have a7:∀d p,T d p->d∈S4.B/\p∈S4.B/\S4.rt (ix S4.B d)=S4.rt (ix S4.B p):=λd p h=>by have O:=(hT d p).mp h;refine⟨(aF _).mp (E _ O).1,(aF _).mp (E _ O).2,?_⟩;exact Z▸a2.rt _ _ (aP _ O)
  have b:Same S4 M h:=⟨y.hs.bk.fm,y.hs.un.P,aF,λd ha p hb=>Cd y.hs y.inv r a7 aF HM HC ha hb⟩;have k5:=ub N.cm y.hs y.inv r a7 w5.kv bq aF A ab;rw[<-Z]at X1 X2;refine aU<|oO<|tY<|ac rfl<|jy<|c4<|ce<|ac aV.gz ⟨a0<|by rw[bV];exact ED ‹_› dd,fX (λl:Nat=>V.int l) (λc=>V.int (aS dN an c:Nat)) (λc hc kY qk=>?_) ?_⟩;.refine a4 ((hd c).mp hc) λt ht e g=>?_;have aI:c∈an.map Prod.fst:=e▸(X1 t ht).1;exact aX<|ac aK<|ac rfl<|gk aQ (cC (ec eA an) _) (i4 aI) qk
  .rw[Ir];refine kF (ns:=ao.map λc=>aS dN an c) (by show j' _=_;unfold aM;exact Fb.symm▸rfl) (by rw[Ex];exact ER ‹_› dd) λms mp sp=>?_;refine bn (S.d5 R9) λbD bF bu bv=>cH (lq _) (b.lows X1 X2 k5 nd hd mp sp bh bj▸rfl)<|a1<|tZ<|bE aV.gq bu (bv 90 dd) rfl<|aH<|ud (G:=G+5) N S R9 λbH bw bA=>ac rfl<|cH (lq _) ?_ ?_;.rw[uf bw bh λx=>by rw[bA,bj,b.cl<|ub N.cm y.hs y.inv r a7 S.kv bt aF A ab,b.cl k5]]
   .refine q a3 O9 H9 R9 ⟨S.ea 16 dd▸e1.1,S.ea 22 dd▸e1.2⟩ ⟨S.eo 16 dd▸o1.1,S.eo 22 dd▸o1.2.1⟩
end
end
section
variable{af:List Tm}
def OA(cs:List Int)(r:Nat)(af:List Tm):RH:=λo=>if o=22 then j' (cT cs r)else if o=23 then j' (.list<|af.map Tm.toV)else kf
def OB(cs:List Int)(r:Nat):RH:=λo=>if o=22 then j' (cT cs r)else kf
def OC(cs:List Int)(r c dx:Nat)(fs:List<|Nat×V):RH:=λo=>if o=22 then j' (cT cs r)else if o=16 then j' (.inst c dx fs)else kf
theorem uh:(OA cs r af).upd 22 (cT cs s')=OA cs s' af:=by
 funext o;by_cases e:o=22;.rw[e];rfl
 .rw[RH.aa e];unfold OA;rw[aC e,aC e]
theorem Cu:(OA cs r af).upd 23 (.list<|z.map Tm.toV)=OA cs r z:=by
 funext o;by_cases e:o=23;.rw[e];rfl
 .rw[RH.aa e];unfold OA;rw[aC e,aC e]
theorem Cv:(OB cs r).upd 22 (cT cs s')=OB cs s':=by
 funext o;by_cases e:o=22;.rw[e];rfl
 .rw[RH.aa e];unfold OB;rw[aC e,aC e]
theorem jN(R:Rp Y (OB cs r) H)(hc:cs.length<=1000)(hs:r<=1000)(hm:0<f)(q:∀k H',k<f->Rp Y (OB cs<|r+1) H'->C (.int (k:Nat)) H'):CN (G+1) 41 [.ref<|Y 22,.int (f:Nat)] H C:=m4 (R.get rfl) hc hs hm λk X=>q k _ X<|by have:=R.set (o:=22) rfl<|cT cs<|r+1;rwa[Cv]at this
theorem Cw(R:Rp Y (OA cs r af) H)(hc:cs.length<=1000)(hs:r<=1000)(hm:0<f)(q:∀k H',k<f->Rp Y (OA cs (r+1) af) H'->C (.int (k:Nat)) H'):CN (G+1) 41 [.ref<|Y 22,.int (f:Nat)] H C:=m4 (R.get rfl) hc hs hm λk X=>q k _ X<|by have:=R.set (o:=22) rfl<|cT cs<|r+1;rwa[uh]at this
theorem Cx(a:m 70=j' (.ref<|Y 22))(hc:cs.length<=1000):∀(z:List V)(ao:List Tm)(H:Hp)(r:Nat),Rp Y (OA cs r af) H->r+7*z.length<=1000->(∀(n:List Tm)H' s',Rp Y (OA cs s' af) H'->s'<=r+7*z.length->n.length=ao.length+z.length->(∀t∈n,t∈ao\/t.dp<=2)->Kk (n.map Tm.toV) H')->cV (eV (CN<|G+4) (.call 42<|.cons (.v 70)<|.cons (.k<|.int 2) .nil) (.v 75) .c0 m) z (ao.map Tm.toV) H Kk:=by intro v1;induction v1 with|nil=>intro ao H r R g k;exact iL<|k ao H r R (EM _) rfl λd h=>.inl h|cons x z ih=>
  intro ao H r R hs k;rw[Fi]at hs;refine hP<|cd<|ap<|ac a<|ap<|aG<|aH<|B9 (G:=G) hc 2 H r _ (R.get rfl) (by show r+7<=1000;exact aE 0x3b4fa14e3a414fa14e6382909d20 rfl hs) λt s' ht y=>?_;have y:s'<=r+7:=y;have R2:=R.set (o:=22) rfl<|cT cs s';rw[uh]at R2;rw[show ao.map Tm.toV++[t.toV]=(ao++[t]).map Tm.toV by rw[Gk];rfl];refine ih (ao++[t]) _ s' R2 (aT 0x77b4fa14e604e9151c748054fa14e6382909d20 rfl hs y) λn H' s2 R3 J L b=>k n H' s2 R3 (cy 0x77b4731c148ce908a8e60ce900a8e3a420 rfl y J) (L▸EH▸JR _ _ _) λaj hu=>?_;refine(b aj hu).elim (λh=>?_) λh=>?_
  .refine(E1.mp h).elim (λh=>?_) λh=>?_;.exact .inl h
   .exact ta.mp h▸.inr ht
  .exact .inr h
theorem Cy{m:aL}{Kk:List V->Hp->Prop}{M:List Tm}(a:m 70=j' (.ref<|Y 22))(l:m 15=j' (.lst<|M.map Tm.toV))(h0:0<M.length)(hl:M.length<=1000)(hc:cs.length<=1000):∀z ao H r,Rp Y (OB cs r) H->r+2*z.length<=1000->(∀n H' s',Rp Y (OB cs s') H'->s'<=r+2*z.length->n.length=ao.length+z.length->(∀j∈n,j∈ao\/j.1∈M/\j.2∈M)->Kk (cE n) H')->cV (eV (CN<|G+1) (.tup<|.cons (.sub (.v 15)<|.call 41<|.cons (.v 70)<|.cons (.len<|.v 15) .nil)<|.cons (.sub (.v 15)<|.call 41<|.cons (.v 70)<|.cons (.len<|.v 15) .nil) .nil) (.v 75) .c0 m) z (cE ao) H Kk:=by intro v1;induction v1 with|nil=>intro ao H r R g k;exact iL<|k ao H r R (EM _) rfl λc h=>.inl h|cons x z ih=>
  intro ao H r R hs k;rw[Fi]at hs;have D:∀{H}{r}{P},Rp Y (OB cs r) H->r<=1000->(∀t H',t∈M->Rp Y (OB cs<|r+1) H'->P t.toV H')->am tab (CN<|G+1) (.sub (.v 15)<|.call 41<|.cons (.v 70)<|.cons (.len<|.v 15) .nil) ((m.del 75).set 75 x) H P:=λ{H r P}R hs j=>by have jU:((m.del 75).set 75 x) 15=j' (.lst<|M.map Tm.toV):=l;refine aX<|ac jU<|cd<|ap<|ac a<|ap<|dt<|ac jU<|gU (by rw[Ex];exact hl)<|aH<|jN R hc hs (by rw[Ex];exact h0) λi H' hi K=>?_;refine aA (EO.mp<|IM hi) λt ht e=>b2 (EL hi) (by rw[Ex]at hi;exact aE 0x3bdafa1201161a8034fa140 rfl hl hi)<|e▸j t H' ht K
  refine hP<|bO<|ap<|D R (aE 0x769f42814fa14e6382908920 rfl hs) λd aq ha R1=>ap<|D R1 (aE 0x3b4fa14e0a414fa14e6382908920 rfl hs) λp H2 hb R2=>aH ?_;rw[show cE ao++[V.tup [d.toV,p.toV]]=cE (ao++[(d,p)])by unfold cE;exact Gk▸rfl];refine ih (ao++[(d,p)]) _ _ R2 (aE 0x3b4fa14e604497052e0a414fa14e6382908920 rfl hs) λn H' s2 R3 J L b=>k n H' s2 R3 (aT 0x3b4731c1488490828e608497052e0a420 rfl J) (L▸EH▸JR _ _ _) λaj hu=>?_;refine(b aj hu).elim (λh=>?_) λh=>?_
  .refine(E1.mp h).elim (λh=>?_) λh=>?_;.exact .inl h
   .exact ta.mp h▸.inr ⟨ha,hb⟩
  .exact .inr h
structure LW(tp:Nat)(ts:List Tm)(ag:List<|Tm×Tm)(S':List Tm)(h:Tm->Nat)(m n:Nat)(l:aL):Prop where gf:l 70=some (.ref tp)gx:l 84=some (.lst<|ts.map Tm.toV)er:l 24=some (.lst<|cE ag)cu:l 15=some (.lst<|S'.map Tm.toV)cq:l 76=some (.br<|cv S' h)l9:l 9=some (.int m)l4:l 4=some (.int n)
theorem LW.set(w:LW tp ts ag M h y l m)(hi:i≠70/\i≠84/\i≠24/\i≠15/\i≠76/\i≠9/\i≠4)(v:V):LW tp ts ag M h y l<|m.set i v:=by
 refine⟨?_,?_,?_,?_,?_,?_,?_⟩;.rw[aL.af _ _<|by exact aB 0x77d6008cadef7bdefd62241eb2520f584c503d67a41eb6120f5854503d611940 rfl hi];exact w.gf
 .rw[aL.af _ _<|by exact aB 0x77d600a8adef7bdefd62241eb2520f584c503d67a41eb6120f5854503d611940 rfl hi];exact w.gx
 .rw[aL.af _ _<|by exact aB 0x3beb0309def7bdefd62241eb2520f584c503d67a41eb6120f5854503d611940 rfl hi];exact w.er
 .rw[aL.af _ _<|by exact aB 0x3beb01e9def7bdefd62241eb2520f584c503d67a41eb6120f5854503d611940 rfl hi];exact w.cu
 .rw[aL.af _ _<|by exact aB 0x77d60098adef7bdefd62241eb2520f584c503d67a41eb6120f5854503d611940 rfl hi];exact w.cq
 .rw[aL.af _ _<|by exact aB 0x3beb0129def7bdefd62241eb2520f584c503d67a41eb6120f5854503d611940 rfl hi];exact w.l9
 .rw[aL.af _ _<|by exact aB 0x3beb0089def7bdefd62241eb2520f584c503d67a41eb6120f5854503d611940 rfl hi];exact w.l4
def pt(H:Hp)(v:V)(C:V->Hp->Prop):Prop:=match v with|.tup z=>∃d p,z=[d,p]/\C (.tup [p,d]) H|.lst z=>z.length<=aR/\C (.lst z.reverse) H|_=>False
theorem pu(k:am tab ab x m H λv H=>pt H v C):am tab ab (.fj x) m H C:=k
theorem uk(hl:z.length<=1000)(q:C (.lst z.reverse) H):pt H (.lst z) C:=⟨a0 hl,q⟩
theorem Cz(q:C (.tup [p,d]) H):pt H (.tup [d,p]) C:=⟨d,p,rfl,q⟩
theorem CA(k:am tab ab x m H λv H=>av (eP v) λc=>C (.bool !c) H):am tab ab (.not x) m H C:=k
end
section
variable{T:Tm->Tm->Prop}{sp:Bool}{bh:Int}
variable{G:Nat}{Y:Ad}{al:RH}{H:Hp}{C:V->Hp->Prop}{cs:List Int}{r:Nat}{af:List Tm}
structure Lw(ts:List Tm)(ag:List<|Tm×Tm)(S':List Tm)(h:Tm->Nat)(T:Tm->Tm->Prop):Prop where
 gc:∀t∈ts,t.dp<=2
 fe:ts.length<=3
 dS:∀t∈S',t.dp<=2
 cl:∀t∈S',∀k∈t.kids,k∈S'
 lS:S'.length<=60
 mem:∀t,t∈S'↔t∈c5 ts []memr:∀t,t∈S'↔t∈c5 ts.reverse []hT:∀a b,T a b↔(a,b)∈ag
 dw:∀p∈ag,p.1∈S'/\p.2∈S'
 lT:ag.length<=9
 hm:Hm S' T h
 hc:Cgr S' T<|Rl S' h
theorem CB(h:m i=j' (.bool p))(q:C (.bool !p) H):am tab ab (.not<|.v i) m H C:=CA<|ac h q
theorem um{P1 P2:Bool->Prop}(h:P2 Do):av (eP<|.bool Do) λc=>if(!c)=Do then P1 c else P2 c:=h
theorem CC(h:ct i)(q:P<|.int<|i*i):fd H .pow (.int i) (.int 2) P:=⟨rfl,h,q⟩
theorem uo(N:KAna Q aa ar ay)(W:Lw ts ag M h T)(A:PostFix Q M T aw)(ab:∀az,PostFix Q M T az->∀t∈M,Q.le (az t)<|aw t)(nd:ao.Nodup)(ld:ao.length<=60)(hd:∀c,c∈ao↔∃t∈M,h t=c/\aw t=Q.ah)(R:Rp Y (OC cs r ar bg ay) H)(w:LW (Y 22) ts ag M h y l m)(a:m 85=j' (.lst<|aM ao))(b:m 86=j' (.bool bc))(i:m 23=j' (.ref<|Y 16))(k:∀ae H',Rp ae (OB cs r) H'->ae 22=Y 22->Kk .nx m H'):aV tab (CN<|G+9) (.cons (.be (.not<|.x<|.call 52<|.cons (.v 84)<|.cons (.v 24)<|.cons (.v 15)<|.cons (.v 76)<|.cons (.v 85)<|.cons (.v 23)<|.cons (.v 86) .nil) (.cons (.ret<|.k<|.bool EF) .nil) .nil)<|.cons (.be (.not<|.x<|.call 52<|.cons (.fj<|.v 84)<|.cons (.fj<|.v 24)<|.cons (.v 15)<|.cons (.v 76)<|.cons (.v 85)<|.cons (.v 23)<|.cons (.not<|.v 86) .nil) (.cons (.ret<|.k<|.bool EF) .nil) .nil) .nil) m H Kk:=by
 have f:∀{r},OC cs r ar bg ay 16=j' (.inst ar bg ay):=rfl;have hO:∀o,o≠16/\o≠22->OC cs r ar bg ay o=.none:=λo O=>by unfold OC;rw[aC O.2,aC O.1]
 refine bA<|jw<|kA<|cd<|ap<|ac w.gx<|ap<|ac w.er<|ap<|ac w.cu<|ap<|ac w.cq<|ap<|ac a<|ap<|ac i<|ap<|ac b<|aH ?_;refine ug (G:=G) N W.gc W.fe W.dS W.lS W.mem W.hT W.dw W.lT W.hm W.hc A ab nd ld hd R hO f λan O2 H2 R2 e2 J=>?_;have R3:Rp an (OC cs r ar bg ay) H2:=R2.weak λo D e=>by
  by_cases c1:o=22;.rw[c1]at e⊢;rw[J.2];exact e
  .by_cases c2:o=16;.rw[c2]at e⊢;rw[J.1];exact e
   .rw[hO o ⟨c2,c1⟩]at e;exact aP e
 refine um<|bA<|jw<|kA<|cd<|ap<|pu<|ac w.gx<|uk (by rw[Ex];have:=W.fe;exact ED ‹_› dd)<|ap<|pu<|ac w.er<|uk (by unfold cE;rw[Ex];have:=W.lT;exact ED ‹_› dd)<|ap<|ac w.cu<|ap<|ac w.cq<|ap<|ac a<|ap<|ac i<|ap<|CB b<|aH ?_;rw[<-OZ,show(cE ag).reverse=cE ag.reverse by unfold cE;rw[OZ],<-e2.1];refine ug (G:=G) N (λt ht=>W.gc t<|Jt.mp ht) (by rw[Ob];exact W.fe) W.dS W.lS W.memr (λd p=>(W.hT d p).trans Jt.symm) (λj hp=>W.dw j<|Jt.mp hp) (by rw[Ob];exact W.lT) W.hm W.hc A ab nd ld hd R3 hO f λn O4 H4 z Z o4=>?_;refine um<|b6<|k n H4 (z.weak λo D e=>?_)<|Z.2.trans e2.2;by_cases c1:o=22;.rw[c1]at e⊢;rw[o4.2];exact e
 .unfold OB at e;rw[aC c1]at e;exact aP e
end
section
variable{m:aL}
theorem CD{y:Nat}(hm:y<=9)(R:Rp Y (OB cs r) H)(f:m 9=j' (.int y))(q:∀ae H' dx,Rp ae (OC cs r 1 dx [(9,.int y),(10,.int<|10*((y+1)*(y+1)))]) H'->ae 22=Y 22->C (.ref<|ae 16) H'):am tab (CN<|G+1) (.new 1<|.cons (.v 9) .nil) m H C:=by
 refine jv (c:=1) (w:=4) rfl<|ap<|ac f<|aH λd dx ha hd K=>?_;have g1:((H.set dx .b9).set d<|.inst 1 dx []) d=j' (.inst 1 dx []):=Hp.ao _ _ _;have M:ct<|(y:Int)+1:=by unfold ct dC;exact aB 0x7778e8d4a5100042dc14c8187053204fa3529440010ba2520 rfl hm
 have a:(Y.upd 16 d) 16=d:=Ad.ae;refine a6 (fn:=p7) rfl rfl<|b4<|ac (i:=9) (v:=.int y) rfl<|gR (i:=3) rfl g1 (E8 _)<|b4<|bF<|aG<|bF<|bF<|ac rfl<|aG<|eK<|aG<|CC M<|iX (by unfold ct dC;decide) ?_<|gR (i:=3) rfl (Hp.ao _ _ _) (show 1<=20 by decide)<|b6 ⟨rfl,?_⟩
 .have J:y+1<=10:=FD ‹_›;have b:((y:Int)+1)*(y+1)=(((y+1)*(y+1):Nat):Int):=by rw[Kz];rfl
  dsimp only[ct,dC];exact b▸aB 0xeef1d1a94a200085c8189027d1a94a200085d18a4a920 rfl (J0 J J)
 .have R2:=((R.dead hd .b9).new (o:=16) (d:=d) ((Hp.af _ _ K).trans ha) rfl<|.inst 1 dx []).set RH.ae<|.inst 1 dx [(9,.int y),(10,.int<|10*((y+1)*(y+1)))];rw[iP,a,gA]at R2;rw[gA,gA,<-a];refine q _ _ dx (R2.weak λo D e=>?_) rfl;unfold OC at e;by_cases c1:o=16;.rw[c1]at e⊢;exact e
  .rw[RH.aa c1];rw[aC c1]at e;exact e
theorem CE(R:Rp Y (OB cs r) H)(b:m 4=j' (.int l))(q:∀ae H' dx,Rp ae (OC cs r 0 dx [(4,.int l)]) H'->ae 22=Y 22->C (.ref<|ae 16) H'):am tab (CN<|G+1) (.new 0<|.cons (.v 4) .nil) m H C:=by
 refine jv (c:=0) (w:=1) rfl<|ap<|ac b<|aH λd dx ha hd K=>?_;have g1:((H.set dx .b9).set d<|.inst 0 dx []) d=j' (.inst 0 dx []):=Hp.ao _ _ _;have a:(Y.upd 16 d) 16=d:=Ad.ae;refine a6 (fn:=p5) rfl rfl<|b4<|ac (i:=4) (v:=.int l) rfl<|gR (i:=3) rfl g1 (E8 _)<|b6 ⟨rfl,?_⟩;have R2:=((R.dead hd .b9).new (o:=16) (d:=d) ((Hp.af _ _ K).trans ha) rfl<|.inst 0 dx []).set RH.ae<|.inst 0 dx [(4,.int l)];rw[iP,a,gA]at R2;rw[gA,<-a];refine q _ _ dx (R2.weak λo D e=>?_) rfl;unfold OC at e;by_cases c1:o=16;.rw[c1]at e⊢;exact e
 .rw[RH.aa c1];rw[aC c1]at e;exact e
end
section
variable{T:Tm->Tm->Prop}{G:Nat}{Y:Ad}{H:Hp}{cs:List Int}{r:Nat}
theorem CF(W:Lw ts ag M h T)(hm:2<=y/\y<=9)(hn:2<=l/\l<=6)(R:Rp Y (OB cs r) H)(E:LW (Y 22) ts ag M h y l m)(hc:cs.length<=1000)(hs:r<=900)(p:Bool)(k:∀ae H' l',Rp ae (OB cs<|r+1) H'->LW (ae 22) ts ag M h y l l'->Kk .nx l' H'):aV tab (CN<|G+9) (.cons (.asg (.t<|.cons (.v 85)<|.cons (.v 86) .nil)<|.tup<|.cons (.call 51<|.cons (.v 15)<|.cons (.v 76)<|.cons (.v 81)<|.cons (.ite (.x<|.v 81) (.v 9)<|.v 4) .nil)<|.cons (.cmp .eq (.call 41<|.cons (.v 70)<|.cons (.k<|.int 2) .nil)<|.k<|.int 1) .nil)<|.cons (.asg (.v 23)<|.ite (.x<|.v 81) (.new 1<|.cons (.v 9) .nil)<|.new 0<|.cons (.v 4) .nil)<|.cons (.be (.not<|.x<|.call 52<|.cons (.v 84)<|.cons (.v 24)<|.cons (.v 15)<|.cons (.v 76)<|.cons (.v 85)<|.cons (.v 23)<|.cons (.v 86) .nil) (.cons (.ret<|.k<|.bool EF) .nil) .nil)<|.cons (.be (.not<|.x<|.call 52<|.cons (.fj<|.v 84)<|.cons (.fj<|.v 24)<|.cons (.v 15)<|.cons (.v 76)<|.cons (.v 85)<|.cons (.v 23)<|.cons (.not<|.v 86) .nil) (.cons (.ret<|.k<|.bool EF) .nil) .nil) .nil) (m.set 81<|.bool p) H Kk:=by
 have w:=E.set (i:=81) dd<|.bool p;have j:(m.set 81<|.bool p) 81=j' (.bool p):=rfl;generalize m.set 81 (.bool p)=m at w j;have a:∀R,R=(λd p=>d=p\/d∈M/\p∈M/\h d=h p)->Cgr M T R:=λR e=>by rw[e];exact W.hc
 induction p with|true=>
  have O:(y:Int)<=9:=aB 0x76e94c81ba2520a0049 rfl hm;have ar:(2:Int)<=y:=aB 0x76f20093ba2520a0049 rfl hm;have hf:2*(y:Int)<10*(((y:Int)+1)*(y+1))/\10*(((y:Int)+1)*(y+1))<2000:=by
   have J:y+1<=10:=aB 0x1da292e0a41ba2520a0049 rfl hm;have L:=J0 J J;have h4:=Nat.le_mul_self<|y+1;have b:((y:Int)+1)*(y+1)=(((y+1)*(y+1):Nat):Int):=by rw[Kz];rfl
   rw[b];exact aE 0x3bdef7780fa035b2415270c90549648024d02e0a41419141a2520a0049 rfl hm.1 hm.2 L h4
  refine b4<|bO<|ap<|cd<|ap<|ac w.cu<|ap<|ac w.cq<|ap<|ac j<|ap<|bZ<|gW j<|a1<|ac w.l9<|aH ?_;refine t8 (G:=G+5) (BN O ar) W.dS W.cl W.lS a W.hm λaw ao A ab nd ld hd=>ap<|ms<|cd<|ap<|ac w.gf<|ap<|aG<|aH<|jN (G:=G+8) (f:=2) R hc (ED ‹_› dd) dd λi aq hi R1=>aG<|gP<|aH ⟨rfl,hr<|hq<|hr<|hq ⟨rfl,?_⟩⟩;have f2:=(w.set (i:=85) dd<|.lst<|aM ao).set (i:=86) dd<|.bool<|decide<|(i:Int)=1;refine bG<|bZ<|gW (i:=81) (p:=Do) j<|a1<|CD (G:=G+8) hm.2 R1 f2.l9 λan H2 dx R2 e2=>?_;have u:=f2.set (i:=23) dd<|.ref<|an 16;rw[<-e2]at u;exact uo (Bt O ar hf) W A ab nd ld hd R2 u rfl rfl rfl λn H4 z Z=>k n H4 _ z<|by rw[Z];exact u|false=>have o:(0:Int)<l:=aB 0x77120013ba1920a0049 rfl hn;have q:(l:Int)<=6:=aB 0x76e64c81ba1920a0049 rfl hn;refine b4<|bO<|ap<|cd<|ap<|ac w.cu<|ap<|ac w.cq<|ap<|ac j<|ap<|bZ<|gW j<|a3<|ac w.l4<|aH ?_;refine t8 (G:=G+5) (BO o q) W.dS W.cl W.lS a W.hm λaw ao A ab nd ld hd=>ap<|ms<|cd<|ap<|ac w.gf<|ap<|aG<|aH<|jN (G:=G+8) (f:=2) R hc (ED ‹_› dd) dd λi aq hi R1=>aG<|gP<|aH ⟨rfl,hr<|hq<|hr<|hq ⟨rfl,?_⟩⟩;have f2:=(w.set (i:=85) dd<|.lst<|aM ao).set (i:=86) dd<|.bool<|decide<|(i:Int)=1;refine bG<|bZ<|gW (i:=81) (p:=EF) j<|a3<|CE (G:=G+8) R1 f2.l4 λan H2 dx R2 e2=>?_;have u:=f2.set (i:=23) dd<|.ref<|an 16;rw[<-e2]at u;exact uo (BB o q) W A ab nd ld hd R2 u rfl rfl rfl λn H4 z Z=>k n H4 _ z<|by rw[Z];exact u
end
section
variable{af:List Tm}
theorem CG(hi:m i=j' (.ref d))(ha:H d=j' (.list f))(k:aV tab ab o (m.set i<|.lst f) (H.del d) A):aV tab ab (.cons (.f9 i) o) m H A:=by show av (m i) _;rw[hi];show av (H d) _;exact ha▸k
theorem uq(k:cW tab ab as m H λY H=>∀d,H d=kf->C (.ref d) (H.set d<|.list Y)):am tab ab (.lst Do as) m H C:=k
def ur(H:Hp)(v:V)(C:V->Hp->Prop):Prop:=av (bT H v) λz=>z.length<=aR/\C (.lst z) H
theorem CH(k:am tab ab x m H λv H=>ur H v C):am tab ab (.cj EF x) m H C:=k
theorem CJ(hl:z.length<=1000)(q:C (.lst z) H):ur H (.lst z) C:=⟨a0 hl,q⟩
theorem CK{r t:List V}{P:V->Prop}(hl:(r++t).length<=1000)(q:P<|.lst<|r++t):fd H .add (.lst r) (.lst t) P:=⟨a0 hl,q⟩
theorem CL(ns:List Int)(ad:ns.length<=63):CN 40 53 [.lst<|ns.map V.int] (λc=>kf) λv c=>v=.bool true:=by
 have aK:(ns.take 50).length<=1000:=Hh▸aB 0x14fa1500064a rfl;refine a6 (G:=39) (fn:=qO) rfl rfl<|b4<|bO<|ap<|uq<|ap<|CH<|mH<|ac (i:=91) rfl<|aG<|t3 (l:=50) dd (by rw[Ex];exact ED ‹_› dd) ?_;rw[<-List.map_take];generalize ns.take 50=cs at aK;refine CJ (by rw[Ex];assumption)<|ap<|aG<|aH λd ha=>ap<|uq<|aH λp hb=>aH ⟨rfl,hr<|hq<|hr<|hq ⟨rfl,?_⟩⟩;have R0:Rp (λc=>0) (λc=>kf) λc=>kf:=⟨λc c h=>aJ rfl h,λh=>aP h⟩;have R1:=(R0.new (o:=22) ha rfl<|cT cs 0).new (o:=23) (d:=p) hb rfl<|.list<|([]:List Tm).map Tm.toV;have R2:=R1.weak (O':=OA cs 0 []) λo D e=>by
  unfold OA at e;by_cases c1:o=22;.rw[c1]at e⊢;exact e
  .by_cases c2:o=23;.rw[c2]at e⊢;exact e
   .rw[aC c1,aC c2]at e;exact aP e
 have ay:d=((Ad.upd (λc=>0) 22 d).upd 23 p) 22:=rfl;have az:p=((Ad.upd (λc=>0) 22 d).upd 23 p) 23:=rfl;generalize(Ad.upd (λc=>0) 22 d).upd 23 p=Y at R2 ay az;clear R1 R0;change aV tab (CN 39) _ _ (Hp.set (Hp.set (λc=>kf) d<|cT cs 0) p<|.list<|([]:List Tm).map Tm.toV) _;generalize Hp.set (Hp.set (λc=>kf) d<|cT cs 0) p (.list<|([]:List Tm).map Tm.toV)=H at R2⊢;clear ha hb;subst ay az;refine bG<|c4<|kH<|bF<|aG<|cd<|ap<|ac (i:=70) rfl<|ap<|aG<|aH<|Cw (G:=38) (f:=2) R2 aK dd dd λi aq hi R1=>eK ?_;rw[show(2:Int)+(i:Nat)=(2+i:Nat)by exact rfl];refine kJ (by exact aB 0xed7d09008b70049a8920 rfl hi) ⟨a0<|by unfold eQ;rw[Ex,Fo];exact aB 0x1da7d0a70049a8920 rfl hi,Cx (G:=35) (Y:=Y) rfl aK _ [] aq 1 R1 (by unfold eQ;rw[Ex,Fo];exact aB 0x769f429cc700493a429a8920 rfl hi) λts H2 s2 R2 de X u=>?_⟩;unfold eQ at de X;rw[Ex,Fo]at de X;have X:ts.length=2+i:=X.trans<|IN _;have u:∀t∈ts,t.dp<=2:=λt ht=>(u t ht).resolve_left λh=>(Ez h).elim;have aW:(c5 ts []).length<=21:=by have:=(m3 (ts:=ts) (af:=[]) Hu λc h=>(Ez h).elim).2.2.2 u;have:(c5 ts []).length<=0+7*ts.length:=this;exact cy 0x3bdef69548e8e604e910ece00921b39c012441a8920 rfl hi ‹_› X ‹_›
 refine e4<|ce<|ac rfl ⟨a0<|by rw[Ex];exact aE 0x1ded3e8506ce00921a8920 rfl hi X,e5 Tm.toV (λas m H'=>m 70=j' (.ref<|Y 22)/\m 84=j' (.lst<|ts.map Tm.toV)/\m 15=j' (.ref<|Y 23)/\∃af,Rp Y (OA cs s2 af) H'/\c5 as af=c5 ts []/\(∀t∈as,t.dp<=2)/\∀t∈af,t.dp<=2) ⟨rfl,rfl,rfl,[],R2,rfl,u,λt h=>(Ez h).elim⟩ ?_ ?_⟩;.as_aux_lemma=>
   intro t as m H' s K' av;refine bM s λZ gx cu z2=>b5 z2 λaf R J aO Q=>?_;have aA:=aO t Eu;have hl:(a9 t af).length<=21:=ED (ue as _)<|(show c5 as (a9 t af)=_ from J).symm▸aW;refine co<|cd<|ap<|ac rfl<|ap<|ac cu<|aH<|Cb (G:=36) 3 t (FD ‹_›) aA H' af _ (R.get rfl) Q (ED ‹_› dd)<|b6<|av _ _ ⟨Z,gx,cu,a9 t af,?_,J,λaj hu=>aO aj<|Ev _ hu,λaj hu=>?_⟩;.have:=R.set (o:=23) rfl<|.list<|(a9 t af).map Tm.toV;rwa[Cu]at this
   .rcases m1.mp hu with h|h;.exact Q aj h
    .exact ED (t9 h) aA
 .as_aux_lemma=>
   intro m H3 s;refine bM s λZ gx cu z2=>b5 z2 λS R3 O c dS=>?_;have O:S=c5 ts []:=O;have z:=(R3.del (o:=23) rfl).weak (O':=OB cs s2) λo D e=>by
    unfold OB at e;by_cases c1:o=22;.rw[c1]at e⊢;exact e
    .rw[aC c1]at e;exact aP e
   refine CG cu (R3.get rfl)<|bM (m3 (ts:=ts) (af:=[]) Hu λc h=>(Ez h).elim) λaD cl aF c=>bM (m3 (ts:=ts.reverse) (af:=[]) Hu λc h=>(Ez h).elim) λc c aM c=>?_;rw[<-O]at aD cl aW;have ar:0<S.length:=by rw[O];induction ts with|nil=>simp at X;exact aT 0x1da8809b39c112400 rfl ‹_›|cons t ts=>exact List.length_pos_of_mem<|(aF t).mpr<|.inr ⟨t,Eu,iK t []⟩
   generalize ao:m.set 15 (.lst<|S.map Tm.toV)=b;have aa:b 70=j' (.ref<|Y 22):=ao▸Z;have aN:b 84=j' (.lst<|ts.map Tm.toV):=ao▸gx;have aI:b 15=j' (.lst<|S.map Tm.toV):=ao▸rfl;refine bG<|c4<|kH<|cd<|ap<|ac aa<|ap<|aG<|aH<|jN (G:=38) (f:=5) z aK (by exact aE 0x77b4fa141a398e0092748521a8920 rfl hi de) dd λa H5 hj R5=>kJ (ED ‹_› dd) ⟨a0<|by unfold eQ;rw[Ex,Fo];exact ED (Fa ‹_›) dd,Cy (G:=38) (Y:=Y) aa aI ar (ED ‹_› dd) aK _ [] H5 (s2+1) R5 (by unfold eQ;rw[Ex,Fo];exact aT 0xef7b4fa14e6084970521a9522a398e0092748521a8920 rfl hi de hj) λag H6 s6 R6 C lT hT=>?_⟩;unfold eQ at C lT;rw[Ex,Fo]at C lT;have lT:ag.length=a:=lT.trans<|IN _;have E:∀j∈ag,j.1∈S/\j.2∈S:=λj hp=>(hT j hp).resolve_left λh=>(Ez h).elim;have al:∀t,t∈S↔t∈c5 ts []:=λt=>by rw[O]
   have aQ:∀t,t∈S↔t∈c5 ts.reverse []:=λt=>by rw[al,aF,aM];exact or_congr Pg ⟨λ⟨aj,hu,h⟩=>⟨aj,Jt.mpr hu,h⟩,λ⟨aj,hu,h⟩=>⟨aj,Jt.mp hu,h⟩⟩
   generalize M:b.set 24 (.lst<|cE ag)=l5;have aw:l5 70=j' (.ref<|Y 22):=M▸aa;have aS:l5 84=j' (.lst<|ts.map Tm.toV):=M▸aN;have aX:l5 15=j' (.lst<|S.map Tm.toV):=M▸aI;have aY:l5 24=j' (.lst<|cE ag):=M▸rfl;refine b4<|bO<|ap<|bF<|aG<|cd<|ap<|ac aw<|ap<|aG<|aH<|jN (G:=38) (f:=8) R6 aK (by exact cy 0xef7bda7d0a1d1cc1092e0a423a9522a398e0092748521a8920 rfl hi de hj C) dd λm0 H7 ab I=>eK<|ap<|bF<|aG<|cd<|ap<|ac aw<|ap<|aG<|aH<|jN (G:=38) (f:=5) I aK (by exact cy 0x77bded3e8538291d1cc1092e0a423a9522a398e0092748521a8920 rfl hi de hj C) dd λn0 H8 am N=>eK<|aH ⟨rfl,hr<|hq<|hr<|hq ⟨rfl,?_⟩⟩;rw[show(2:Int)+(m0:Nat)=(2+m0:Nat)by exact aB 0x664e0092e90049 rfl,show(2:Int)+(n0:Nat)=(2+n0:Nat)by exact aB 0x664e0092e90049 rfl];generalize r:(l5.set 9<|.int (2+m0:Nat)).set 4 (.int (2+n0:Nat))=l6;have aZ:l6 70=j' (.ref<|Y 22):=r▸aw;have a1:l6 84=j' (.lst<|ts.map Tm.toV):=r▸aS;have aL:l6 15=j' (.lst<|S.map Tm.toV):=r▸aX;have ax:l6 24=j' (.lst<|cE ag):=r▸aY;have a2:l6 9=j' (.int (2+m0:Nat)):=r▸rfl;have i4:l6 4=j' (.int (2+n0:Nat)):=r▸rfl;have a3:(cE ag).length<=1000:=by unfold cE;rw[Ex];exact aE 0x3bda7d0a0d801a9520 rfl hj lT
   refine bG<|cd<|ap<|ac aL<|ap<|bF<|ac ax<|c4<|ce<|ac ax ⟨a0 a3,fX (λj:Tm×Tm=>V.tup [j.1.toV,j.2.toV]) (λj=>V.tup [j.2.toV,j.1.toV]) (λj hp kY q=>pu<|ac rfl<|Cz q) ?_⟩;rw[Ir];have e2:cE ag++ag.map (λj=>V.tup [j.2.toV,j.1.toV])=cE (ag++ag.map λj=>(j.2,j.1)):=by unfold cE;exact Gk.symm▸Fb.symm▸rfl
   refine CK (by rw[e2];unfold cE;rw[Ex,EH,Ex];exact aE 0xef69f429c10d801a9520 rfl hj lT)<|aH ?_;rw[e2];have L:∀d p,(d,p)∈ag++ag.map (λj=>(j.2,j.1))↔(d,p)∈ag\/(p,d)∈ag:=λd p=>by rw[E1,EO];refine or_congr Pg ⟨λ⟨j,hp,e⟩=>?_,λh=>⟨(p,d),h,rfl⟩⟩;injection e with e1 e2;exact e1▸e2▸hp
   refine BW (G:=37) (T:=λd p=>(d,p)∈ag) aD dS cl (ED ‹_› dd) (λj hp=>?_) (λR n d p h=>?_) (λd p h=>(L p d).mpr ((L d p).mp h).symm) λh Hm A=>?_
   .rcases(L j.1 j.2).mp hp with h|h;.exact⟨dS _ (E _ h).1,dS _ (E _ h).2⟩
    .exact⟨dS _ (E _ h).2,dS _ (E _ h).1⟩
   .rcases(L d p).mp h with h|h;.exact n.ag h
    .exact n.symm<|n.ag h
   have W:Lw ts ag S h λd p=>(d,p)∈ag:=⟨u,by exact aE 0xef683486ce00921a8920 rfl hi X,dS,cl,ED ‹_› dd,al,aQ,λd p=>Pg,E,by exact aE 0x1ded1290d801a9520 rfl hj lT,Hm,Cc (λd p x=>⟨(E _ x).1,(E _ x).2,A d (E _ x).1 p (E _ x).2<|.inl<|(L d p).mpr<|.inl x⟩) cl λd ha p hb x=>A d ha p hb<|.inr x⟩;have w:LW (Y 22) ts ag S h (2+m0) (2+n0)<|l6.set 76<|.br<|cv S h:=by refine⟨aZ,a1,ax,aL,rfl,a2,i4⟩
   refine e4<|ce<|bO<|ap<|aG<|ap<|aG<|aH ⟨show 2<=aR by decide,e5 V.bool (as:=[Do,EF]) (λas m H'=>∃ae s',Rp ae (OB cs s') H'/\LW (ae 22) ts ag S h (2+m0) (2+n0) m/\s'+as.length<=800) ⟨Y,_,N,w,by show _+2<=800;exact cy 0x1def7b4c814e125c14b8291d1cc1092e0a423a9522a398e0092748521a8920 rfl hi de hj C⟩ ?_ ?_⟩;.intro p as m H' s K' av;refine cM s λae s' K f' y=>?_;rw[Fi]at y;exact CF (G:=30) W (by exact aB 0xeee894b8024d1c012449aa120 rfl ab) (by exact aB 0xeee864b8024d1c012449a9520 rfl am) K f' aK (by exact aE 0xed38450299029ce0a420 rfl y) p λan H2 l2 R2 f2=>av _ _ ⟨an,_,R2,f2,by exact aE 0x1da640a705c148299029ce0a420 rfl y⟩
   .rintro m H' _;exact aU<|aG rfl
end
end Mine.Internal.LL
namespace Mine.Internal
def hn(z:Array Nat):Prop:=∀i k d p:Nat,i<k->z[i]?=j' d->z[k]?=j' p->d<p
theorem m5:hn z↔z.toList.Pairwise (·<·):=by
 rw[List.pairwise_iff_getElem];constructor;.intro h i a hi hj y;exact h i a _ _ y (Fd.symm.trans<|EL hi)<|by rw[<-Fd];exact EL hj
 .intro h i k d p b ha hb;rw[<-Fd]at ha hb;refine ax (EN.mp ha) λJ ar=>?_;subst ar;refine ax (EN.mp hb) λL an=>?_;subst an;exact h i k J L b
theorem CM{z:Array Nat}{i d a:Nat}(h:z[i]?=j' d):z.getD i a=d:=by exact GX.symm▸h.symm▸rfl
theorem us(h:d<p):d<=(d+p)/2:=(Nat.le_div_iff_mul_le dd).mpr<|aE 0xed1c10344905420 rfl h
theorem pv(h:d<p):(d+p)/2<p:=(Nat.div_lt_iff_lt_mul dd).mpr<|aE 0xed5a2485c105420 rfl h
theorem CO{a:Nat}(R:hn z):∀E lo hi,hi-lo<=E->lo<=hi->hi<=z.size->(∀i d,i<lo->z[i]?=j' d->d<a)->(∀i d,hi<=i->z[i]?=j' d->a<=d)->(∀i d,i<J8 z a E lo hi->z[i]?=j' d->d<a)/\(∀i d:Nat,J8 z a E lo hi<=i->z[i]?=j' d->a<=d)/\J8 z a E lo hi<=z.size:=by intro E;induction E with|zero=>intro lo hi J L b h4 h5;have:lo=hi:=aE 0x3bdb0034006804bc20 rfl J L;clear J L;subst this;exact⟨h4,h5,b⟩|succ E ih=>
  intro lo hi J L b h4 h5;dsimp only[J8];by_cases c:lo<hi
  .rw[aF c];have hm:=Ew (pv c) b;have hg:z[(lo+hi)/2]?=j' z[(lo+hi)/2]:=E6 hm;simp only[CM hg];by_cases c2:z[(lo+hi)/2]<a
   .rw[aF c2];refine ih _ _ (cy 0x1ded04f7052305061a382913c20 rfl J<|us c) (pv c) b (λi d hl ha=>?_) h5;refine(HW i<|(lo+hi)/2).elim (λx=>?_) λx=>?_;.exact GA (R _ _ _ _ x ha hg) c2
    .have:i=(lo+hi)/2:=by exact aE 0x3bdb0414006ae0a420 rfl hl x
     rw[this,hg]at ha;obtain rfl:=EA ha;exact c2
   .rw[aC c2];refine ih _ _ (cy 0x3bda09e11d403a382913c20 rfl J<|pv c) (us c) (Fa ‹_›) h4 λi d hl ha=>?_;refine(HW ((lo+hi)/2) i).elim (λx=>?_) λx=>?_;.exact Fa<|ER (Gf.mp c2)<|R _ _ _ _ x hg ha
    .have:i=(lo+hi)/2:=JE ‹_› ‹_›;rw[this,hg]at ha;obtain rfl:=EA ha;exact Gf.mp c2
  .rw[aC c];have:lo=hi:=aE 0xef6c107aa105020 rfl L c;clear J L c;subst this;exact⟨h4,h5,b⟩
theorem gY(R:hn z)(a:Nat):(∀i d,i<FL z a->z[i]?=j' d->d<a)/\(∀i d:Nat,FL z a<=i->z[i]?=j' d->a<=d)/\FL z a<=z.size:=CO R _ _ _ (aB 0x28078120 rfl) (E8 _) (EM _) (λi d h=>aJ h<|GB _) λi d h e=>by have:=(FG.mp e).1;exact(IP ‹_› ‹_›).elim
theorem m6(R:hn z)(h:z[i]?=j' a):FL z a=i:=by
 refine aZ (gY R a) λJ L V=>?_;rcases L2 (FL z a) i with c|c|c
 .have ad:FL z a<z.size:=by have:=(FG.mp h).1;exact GA ‹_› ‹_›
  have hg:z[FL z a]?=j' z[FL z a]:=E6 ad;have:=L _ _ (EM _) hg;have:=R _ _ _ _ c hg h;exact(IP ‹_› ‹_›).elim
 .exact c
 .have:=J i a c h;exact(GN _ ‹_›).elim
theorem uu(R:hn z)(h:z[i]?=j' a):FL z (a+1)=i+1:=by
 refine aZ (gY R<|a+1) λJ L b=>?_;have hi:=(FG.mp h).1;rcases L2 (FL z<|a+1) (i+1)with c|c|c;.have:=L i a (Fp ‹_›) h;exact(GN _ ‹_›).elim
 .exact c
 .have ad:i+1<z.size:=Ew ‹_› ‹_›;have hg:z[i+1]?=j' z[i+1]:=E6 ad;have:=J _ _ c hg;have:=R _ _ _ _ (Fq i) h hg;exact(Nat.not_lt_of_le ‹_› ‹_›).elim
theorem uv(R:hn z):FL z 0=0:=by
 refine aZ (gY R 0) λJ o b=>?_;refine(Nat.eq_zero_or_pos<|FL z 0).elim (λc=>?_) λc=>?_;.exact c
 .have hg:z[0]?=j' z[0]:=E6<|Ew ‹_› ‹_›;exact aJ (J _ _ c hg)<|GB _
set_option tactic.hygienic true in
theorem CP(R:hn z)(h:∀i:Nat,z[i]?≠j' a):hn<|GK z (FL z a) a:=by
 refine aZ (gY R a) λJ L b=>?_;rw[m5,GS];rw[m5]at R;refine KY.mpr ⟨Nu (List.take_sublist _ _) R,If.mpr ⟨λp hb=>?_,Nu (List.drop_sublist _ _) R⟩,λd ha p hb=>?_⟩;.refine ax (Gj.mp hb) λk X=>?_;rw[Lx,Fd]at X;exact Ig (L _ _ (EB _ _) X) λe=>h _<|e.symm▸X
 .refine ax (Gj.mp ha) λk X=>?_;rw[Ou]at X;split at X;.next ad=>
   rw[Fd]at X;have f:=J _ _ ad X;rcases EG.mp hb with rfl|hb;.exact f
   .refine ax (Gj.mp hb) λy hm=>?_;rw[Lx,Fd]at hm;exact Ew f<|L _ _ (EB _ _) hm
  .cases X
section
variable{α:Type}
theorem ht(hp:j<=z.size)(i:Nat):(GK z j x)[i]?=if i<j then z[i]? else if i=j then j' x else z[i-1]?:=by
 rw[<-Fd,GS];have hl:(z.toList.take j).length=j:=Hh▸EU▸aE 0x1db020105020 rfl hp;by_cases c:i<j;.rw[aF c,Gb<|hl.symm▸c,Ou,aF c,Fd]
 .rw[aC c,Gm<|hl.symm▸Gf.mp ‹_›,hl];by_cases c2:i=j;.rw[aF c2,c2,Jn];rfl
  .rw[aC c2,show i-j=i-j-1+1 by exact aE 0x77b67052f0a5e103c20f5820f5420 rfl c c2,Hq,Lx,Fd];congr 1;exact aE 0x77b67852073c2978401f5820f5420 rfl c c2
end
structure Tb(t:SetTable)(n:Nat):Prop where
 rise:hn t.place
 ic:t.dummies=#[]size:t.place.size=n
 top:∀i j:Nat,t.place[i]?=some j->j<=t.mask
def dv(t:HE)(a:Nat):Prop:=∃i:Nat,t.place[i]?=j' a
section
variable{t:HE}{l:Nat}
theorem pw(T:Tb t l)(h:t.place[i]?=j' a):t.slot a=.live i:=by dsimp only[Pl];exact(m6 T.rise h).symm▸aF (by rw[h];simp)
theorem uw(T:Tb t l)(h:¬dv t a):t.slot a=.empty:=by dsimp only[Pl];have:¬(t.place[FL t.place a]?==j' a)=Do:=λe=>h ⟨_,eq_of_beq e⟩;rw[aC this,T.ic];rfl
theorem i6(T:Tb t l)(a:Nat):(t.put a).1.place=GK t.place (FL t.place a) a/\(t.put a).1.dummies=#[]/\(t.put a).1.mask=t.mask/\(t.put a).1.led=t.led/\(t.put a).1.plain=t.plain/\(t.put a).1.moves=t.moves/\(t.put a).2=FL t.place a:=by dsimp only[SetTable.put];refine⟨rfl,?_,rfl,rfl,rfl,rfl,rfl⟩;show(if Ov t.dummies a=Do then _ else t.dummies)=#[];rw[T.ic,aC<|by show¬Ov #[] a=Do;unfold Ov;nofun]
theorem ux(T:Tb t l)(h:¬dv t a)(hj:a<=t.mask):Tb (t.put a).1<|l+1:=by
 refine bM (i6 T a) λe1 e2 e3 ar=>?_;refine⟨by rw[e1];exact CP T.rise λi e=>h ⟨i,e⟩,e2,?_,λi k X=>?_⟩;.rw[e1,<-EU,GS,EH,Hh,Fi,Kq,EU,<-T.size];exact aE 0x59c1485ce0a5e00c020 rfl
 .rw[e1,ht (gY T.rise a).2.2]at X;rw[e3];split at X;.exact T.top _ _ X
  .split at X;.obtain rfl:=EA X;exact hj
   .exact T.top _ _ X
variable{α:Type}{f:Array α}
def At(t:HE)(f:Array α)(a:Nat)(e:α):Prop:=∃i:Nat,t.place[i]?=j' a/\f[i]?=j' e
theorem At.gy(h:At t f a e):dv t a:=let⟨i,h,_⟩:=h;⟨i,h⟩
theorem CQ(T:Tb t f.size)(h:dv t a):∃e,At t f a e:=by refine ax h λi h=>?_;have:=(FG.mp h).1;exact⟨f[i]'(T.size▸this),i,h,E6 _⟩
theorem uy(T:Tb t f.size)(h:At t f a e)(h':At t f a e'):e=e':=by refine aA h λi J L=>?_;refine aA h' λk b h4=>?_;have:=m6 T.rise J;have:=m6 T.rise b;have:i=k:=aT 0x77b6106c205820 rfl ‹_› this;replace this:=this.symm;subst this;rw[L]at h4;exact EA h4
theorem uz(T:Tb t f.size):e∈f.toList↔∃a,At t f a e:=by
 constructor
 .intro h;refine ax (Gj.mp h) λi hi=>?_;rw[Fd]at hi;have ad:i<t.place.size:=by rw[T.size];exact(FG.mp hi).1
  exact⟨t.place[i],i,E6 ad,hi⟩
 .rintro⟨a,i,_,hi⟩;rw[<-Fd]at hi;exact E0 hi
theorem ls(T:Tb t f.size):∀{z:Nat}{e':α},At (t.put a).1 (GK f (t.put a).2 x) z e'↔z=a/\e'=x\/At t f z e':=by
 intro z e';refine m' (i6 T a) λe1 an V o e b e2=>?_;have hb:=(gY T.rise a).2.2;dsimp only[At];rw[e1,e2];generalize FL t.place a=j at hb;have aq:j<=f.size:=T.size▸hb;constructor
 .rintro⟨i,J,L⟩;rw[ht hb]at J;rw[ht aq]at L;by_cases c:i<j;.rw[aF c]at J L;exact .inr ⟨i,J,L⟩
  .by_cases c2:i=j;.rw[aC c,aF c2]at J L;obtain rfl:=EA J;obtain rfl:=EA L;exact .inl ⟨rfl,rfl⟩
   .rw[aC c,aC c2]at J L;exact .inr ⟨i-1,J,L⟩
 .intro s;clear e1 e2;obtain(⟨rfl,rfl⟩|⟨i,J,L⟩):=s;.exact⟨j,by rw[ht hb,aC<|GN _,aF rfl],by rw[ht aq,aC<|GN _,aF rfl]⟩
  .by_cases c:i<j;.exact⟨i,by rw[ht hb,aF c];exact J,by rw[ht aq,aF c];exact L⟩
   .exact⟨i+1,by rw[ht hb,aC<|by exact aE 0xefaa170520f5420 rfl c,aC<|by exact aE 0xefac170520f5420 rfl c];exact J,by rw[ht aq,aC<|by exact aE 0xefaa170520f5420 rfl c,aC<|by exact aE 0xefac170520f5420 rfl c];exact L⟩
theorem uA(T:Tb t l):∀{z:Nat},dv (t.put a).1 z↔z=a\/dv t z:=by
 intro z;have T':Tb t (KZ l ()).size:=K0▸T;constructor
 .rintro⟨i,h⟩;have hp:=ls T' (a:=a) (x:=()) (z:=z) (e':=());have:At (t.put a).1 (GK (KZ l ()) (t.put a).2 ()) z ():=by
   refine⟨i,h,?_⟩;have hb:=(gY T.rise a).2.2;have ad:=(FG.mp h).1;have hs:(GK (KZ l ()) (t.put a).2 ()).size=(t.put a).1.place.size:=by rw[(i6 T a).1,(i6 T a).2.2.2.2.2.2];rw[<-EU,<-EU,GS,GS];simp only[EH,Hh,Fi,Kq,EU,K0,T.size]
   rw[E6<|hs▸ad]
  rcases hp.mp this with h|h;.exact .inl h.1
  .exact .inr h.gy
 .intro s;obtain(rfl|h):=s;.exact(ls T' (x:=()).mpr<|.inl ⟨rfl,rfl⟩).gy
  .refine ax (CQ T' h) λe he=>?_;exact(ls T' (x:=()).mpr<|.inr he).gy
end
noncomputable def fG(n:Nat)(j:Nv):SetTable.Probe:=IQ ⟨n,#[],#[],0,Do,0,Do⟩ j
noncomputable def CR(n:Nat)(h:Int):SetTable.Probe:=SetTable.probeStart ⟨n,#[],#[],0,Do,0,Do⟩ h
noncomputable def bj(n:Nat)(h:Int):Nat->Nv|0=>CR n h|l+1=>fG n<|bj n h l
theorem CS(n:Nat)(j:Nv):(fG n j).dummy=j.dummy:=by dsimp only[fG,IQ];split<;>rfl
theorem uB(n:Nat)(h:Int):∀l,(bj n h l).dummy=none:=by intro v;induction v with|zero=>exact rfl|succ l ih=>exact(CS _ _).trans ih
noncomputable def bd(n:Nat)(h:Int)(l:Nat):Nat:=(bj n h l).j
def hv(t:HE)(f:Array<|Int×EI):Prop:=∀a e,At t f a e->∃l,bd t.mask e.1 l=a/\∀y,y<l->dv t (bd t.mask e.1 y)
section
variable{f:Array<|Int×EI}{w:Nat->Int}{h:Int}
theorem uC:Gy t w h (l+1) j=match t.slot j.j with|.empty=>j'<|.empty j.j j.dummy|.dummy=>Gy t w h l<|t.advance {j with dummy:=j' j.j}|.live i=>if w i==h then j' (.candidate j.j i<|t.advance j)else Gy t w h l<|t.advance j:=rfl
theorem uD(e:t.slot j.j=.empty):Gy t w h (l+1) j=j' (.empty j.j j.dummy):=by rw[uC,e]
theorem uE(e:t.slot j.j=.live i):Gy t w h (l+1) j=if w i==h then j' (.candidate j.j i<|t.advance j)else Gy t w h l<|t.advance j:=by rw[uC,e]
theorem CT(T:Tb t f.size)(hf:∀i e,f[i]?=j' e->w i=e.1)(I:¬dv t (bd t.mask h Q))(hO:∀y,y<Q->dv t (bd t.mask h y)):∀E l,l<=Q->Q-l<E->(Gy t w h E (bj t.mask h l)=j' (.empty (bd t.mask h Q) none)/\∀y,l<=y->y<Q->∀e,At t f (bd t.mask h y) e->e.1≠h)\/∃y i e,l<=y/\y<Q/\Gy t w h E (bj t.mask h l)=j' (.candidate (bd t.mask h y) i<|bj t.mask h<|y+1)/\t.place[i]?=j' (bd t.mask h y)/\f[i]?=j' e/\e.1=h/\∀m',l<=m'->m'<y->∀e',At t f (bd t.mask h m') e'->e'.1≠h:=by intro v;induction v with|zero=>intro l g X;exact aJ X<|GB _|succ E ih=>
  intro l hn X;by_cases c:l=Q;.refine .inl ⟨?_,λy J L=>(aT 0x1def75508a8205820 rfl c J L).elim⟩;rw[uD (j:=bj t.mask h l)<|uw T<|by show¬dv t (bd t.mask h l);exact c▸I];show j' (SetTable.Met.empty (bj t.mask h l).j (bj t.mask h l).dummy)=_;rw[uB,c];rfl
  .have ad:l<Q:=Ig ‹_› ‹_›;obtain⟨i,hi⟩:=hO l ad;have q:i<f.size:=T.size▸(FG.mp hi).1;have a:f[i]?=j' f[i]:=E6 q;have LO:Gy t w h (E+1) (bj t.mask h l)=if w i==h then j' (.candidate (bd t.mask h l) i<|bj t.mask h<|l+1)else Gy t w h E<|bj t.mask h<|l+1:=by rw[uE (j:=bj t.mask h l)<|pw T hi];rfl
   rw[LO];by_cases c2:w i=h;.refine .inr ⟨l,i,f[i],EM _,ad,aF<|c2▸beq_self_eq_true _,hi,a,(hf i _ a).symm.trans c2,λm' J L=>(IP ‹_› ‹_›).elim⟩
   .rw[aC λx=>c2<|eq_of_beq x];have d:∀e,At t f (bd t.mask h l) e->e.1≠h:=λe he=>by exact uy T he ⟨i,hi,a⟩▸hf i _ a▸c2
    refine(ih (l+1) ad<|aT 0x3bded44f705200fac1055c1489e00d020 rfl hn X c).elim (λar=>aN ar λJ L=>?_) λan=>hx an λy S e J L b h4 h5 V=>aN V λh6 h7=>?_
    .refine .inl ⟨J,λy m O=>?_⟩;by_cases am:y=l;.exact am▸d
     .exact L y (aE 0x77b40b82907ac00d020 rfl m am) O
    .refine .inr ⟨y,S,e,Fa ‹_›,L,b,h4,h5,h6,λm' m O=>?_⟩;by_cases am:m'=l;.exact am▸d
     .exact h7 m' (aE 0x77b40b82907ac00d020 rfl m am) O
theorem CU(ab:hv t f)(I:¬dv t (bd t.mask h Q))(he:At t f a e)(hh:e.1=h):∃y,y<Q/\bd t.mask h y=a:=by
 refine aA (ab a e he) λl J L=>?_;rw[hh]at J L;rcases HW l Q with c|c;.exact⟨l,c,J⟩
 .rcases Ly c with c|c;.exact aJ (L Q c) I
  .rw[<-c]at J;rw[J]at I;exact aJ he.gy I
theorem CV(T:Tb t f.size)(ab:hv t f)(hO:∀y,y<Q->dv t (bd t.mask h y)):hv (t.put<|bd t.mask h Q).1<|GK f (t.put<|bd t.mask h Q).2 (h,x):=by
 intro a e he;rw[(i6 T<|bd t.mask h Q).2.2.1];rcases(ls T).mp he with⟨rfl,rfl⟩|he;.exact⟨Q,rfl,λy hm=>(uA T).mpr<|.inr<|hO y hm⟩
 .refine aA (ab a e he) λl J L=>?_;exact⟨l,J,λy hm=>(uA T).mpr<|.inr<|L y hm⟩
end
def eB(n:Nat):Prop:=n=7\/n=31\/n=127
noncomputable def fH(aw:Nat):Nat->Nat|0=>0|r+1=>(fH aw r*5+1)%aw
noncomputable def uF:List Nat:=[0,1,6,7,4,5,2,3]
noncomputable def uG:List Nat:=[0,1,6,15,28,13,2,27,24,25,30,7,20,5,26,19,16,17,22,31,12,29,18,11,8,9,14,23,4,21,10,3]
noncomputable def uH:List Nat:=[0,1,70,111,28,109,2,123,120,25,126,71,20,5,58,83,112,49,54,31,12,29,114,43,104,73,110,119,4,53,42,3,96,97,38,79,124,77,98,91,88,121,94,39,116,101,26,51,80,17,22,127,108,125,82,11,72,41,78,87,100,21,10,99,64,65,6,47,92,45,66,59,56,89,62,7,84,69,122,19,48,113,118,95,76,93,50,107,40,9,46,55,68,117,106,67,32,33,102,15,60,13,34,27,24,57,30,103,52,37,90,115,16,81,86,63,44,61,18,75,8,105,14,23,36,85,74,35]
theorem py:(∀a,a<8->fH 8 (uF.getD a 0)=a/\uF.getD a 0<8)/\fH 8 8=0:=by decide+kernel
theorem pz:(∀a,a<32->fH 32 (uG.getD a 0)=a/\uG.getD a 0<32)/\fH 32 32=0:=by decide+kernel
theorem pA:(∀a,a<128->fH 128 (uH.getD a 0)=a/\uH.getD a 0<128)/\fH 128 128=0:=by decide+kernel
theorem CX(hm:eB n):(∀a,a<=n->∃r,r<=n/\fH (n+1) r=a)/\fH (n+1) (n+1)=0:=by
 rcases hm with rfl|rfl|rfl;.exact⟨λa hj=>⟨_,Fp (py.1 a<|FD hj).2,(py.1 a<|FD hj).1⟩,py.2⟩
 .exact⟨λa hj=>⟨_,Fp (pz.1 a<|FD hj).2,(pz.1 a<|FD hj).1⟩,pz.2⟩
 .exact⟨λa hj=>⟨_,Fp (pA.1 a<|FD hj).2,(pA.1 a<|FD hj).1⟩,pA.2⟩
noncomputable def jO(aw:Nat):Nat->Nat->Nat|0,i=>i|o+1,i=>(jO aw o i*5+1)%aw
theorem m7(aw r:Nat):∀o,jO aw o (fH aw r)=fH aw (o+r):=by intro v;induction v with|zero=>rw[IN];rfl|succ o ih=>show(jO aw o (fH aw r)*5+1)%aw=_;exact(ih).symm▸(show o+1+r=o+r+1 by exact JR _ _ _).symm▸rfl
theorem CY(hm:eB n)(hi:i<=n)(hj:a<=n):∃o,o<=n/\jO (n+1) o i=a:=by
 obtain⟨J,L⟩:=CX hm;obtain⟨r,hs,f⟩:=J i hi;obtain⟨aj,hu,ab⟩:=J a hj;rcases Jm r aj with c|c;.exact⟨aj-r,ED (Me _ _) ‹_›,by rw[<-f,m7,Nat.sub_add_cancel c];exact ab⟩
 .rcases Ly c with c|c;.refine⟨aj+(n+1)-r,by exact aT 0x3b413c2e7052205420 rfl c,?_⟩;rw[<-f,m7,show aj+(n+1)-r+r=aj+(n+1)by exact aT 0x1db39c14844e03c0e7052115020 rfl hs,<-m7,L];have:=m7 (n+1) 0 aj;rw[show fH (n+1) 0=0 from rfl]at this;exact this▸ab
  .exact⟨0,E8 _,f▸ab▸c▸rfl⟩
noncomputable def bJ(n:Nat)(h:Int):Nat->Nat×Nat|0=>(Ge h%(n+1),Ge h)|k+1=>SetTable.leap n (bJ n h k).1 (bJ n h k).2
theorem pB(n:Nat)(h:Int):∀k,(bJ n h k).1<=n:=by intro v;induction v with|zero=>exact Fp<|K3 _<|Jo _|succ _ ih=>exact Fp<|K3 _<|Jo _
theorem CZ(n:Nat)(h:Int):∀k,(bJ n h k).2=Ge h/32^k:=by intro v;induction v with|zero=>exact(Nat.div_one _).symm|succ k ih=>show(bJ n h k).2/32=_;rw[ih,Nat.div_div_eq_div_mul,Oq]
theorem C0(h:Int):Ge h<2^64:=by dsimp only[Ge];have J:=MQ h (show(2^64:Int)≠0 by decide);have L:=Lu h (show(0:Int)<2^64 by decide);exact(Mo J).mpr<|Fc L (dd:(2^64:Int)<=((2^64:Nat):Int))
theorem C1(n:Nat)(h:Int)(k:Nat):(bJ n h<|13+k).2=0:=by rw[CZ];refine Nat.div_eq_of_lt<|Ew (C0 h) ?_;rw[Nat.pow_add];exact ED (by decide:2^64<=32^13)<|Nat.le_mul_of_pos_right _<|Nat.pow_pos<|by decide
theorem C3(n:Nat)(h:Int):∀o,(bJ n h<|13+o).1=jO (n+1) o (bJ n h 13).1:=by intro v;induction v with|zero=>exact rfl|succ o ih=>show((bJ n h<|13+o).1*5+1+(bJ n h<|13+o).2/32)%(n+1)=(jO (n+1) o (bJ n h 13).1*5+1)%(n+1);rw[C1,ih]
theorem uI(hm:eB n)(h:Int)(hj:a<=n):∃k,k<=13+n/\(bJ n h k).1=a:=by refine aA (CY hm (pB n h 13) hj) λo J L=>?_;exact⟨13+o,K7 ‹_› _,by rw[C3];exact L⟩
theorem m8(hi:i<=n):i<=FN n i/\FN n i<=n/\FN n i<=i+9:=by
 dsimp only[FN];split;.exact⟨EB _ _,by assumption,EM _⟩
 .exact⟨EM _,hi,EB _ _⟩
noncomputable def jP(n:Nat)(h:Int)(k o:Nat):SetTable.Probe:=⟨(bJ n h k).1+o,FN n (bJ n h k).1-(bJ n h k).1-o,(bJ n h k).1,(bJ n h k).2,none⟩
theorem pC(hn:bj n h l=jP n h k 0):∀o,o<=FN n (bJ n h k).1-(bJ n h k).1->bj n h (l+o)=jP n h k o:=by intro v;induction v with|zero=>intro g;exact hn|succ o ih=>intro O;show fG n (bj n h<|l+o)=_;rw[ih<|Fa ‹_›];dsimp only[fG,IQ];refine(aF<|by show 0<FN n (bJ n h k).1-(bJ n h k).1-o;exact aT 0x1dabc0f10409a3c4170520 rfl O).trans ?_;rfl
theorem C4(n:Nat)(h:Int):∀k,∃l,l<=10*k/\bj n h l=jP n h k 0:=by intro v;induction v with|zero=>exact⟨0,EM _,rfl⟩|succ k ih=>refine aA ih λl J L=>?_;have O:=m8<|pB n h k;refine⟨l+(FN n (bJ n h k).1-(bJ n h k).1)+1,gD 0x3bda31c1485497052e78860dee8e4a443a107418a8c0a920 rfl J O,?_⟩;show fG n (bj n h<|l+_)=_;rw[pC L _<|EM _];dsimp only[fG,IQ];refine(aC<|by show¬0<FN n (bJ n h k).1-(bJ n h k).1-(FN n (bJ n h k).1-(bJ n h k).1);exact aE 0x7aaf7840f08009 rfl).trans ?_;rfl
theorem C5(hm:eB n)(h:Int)(hj:a<=n):∃l,l<=10*(13+n)/\bd n h l=a:=by refine aA (uI hm h hj) λk J L=>?_;refine aA (C4 n h k) λl b h4=>?_;refine⟨l,aT 0x77b46382d4a922a300a48a8e0b520 rfl J b,?_⟩;unfold bd;exact h4▸L
theorem C6(n:Nat)(h:Int):∀l,(bj n h l).j+(bj n h l).more<=n/\(bj n h l).i<=n:=by intro v;induction v with|zero=>have hi:Ge h%(n+1)<=n:=Fp<|K3 _<|Jo _;have:=m8 hi;exact⟨by show Ge h%(n+1)+(FN n (Ge h%(n+1))-Ge h%(n+1))<=n;exact aT 0x3b4139e00837ba3929006820d020 rfl this,hi⟩|succ l ih=>
  refine aN ih λJ L=>?_;show(fG n<|bj n h l).j+(fG n<|bj n h l).more<=n/\(fG n<|bj n h l).i<=n;dsimp only[fG,IQ];by_cases c:(bj n h l).more>0;.rw[aF c];exact⟨by show(bj n h l).j+1+((bj n h l).more-1)<=n;exact aT 0x3bda09cf0a42e0a4150813413820 rfl J c,L⟩
  .rw[aC c];have hi:((bj n h l).i*5+1+(bj n h l).perturb/32)%(n+1)<=n:=Fp<|K3 _<|Jo _;have:=m8 hi;exact⟨by show((bj n h l).i*5+1+(bj n h l).perturb/32)%(n+1)+(FN n (((bj n h l).i*5+1+(bj n h l).perturb/32)%(n+1))-((bj n h l).i*5+1+(bj n h l).perturb/32)%(n+1))<=n;exact aT 0x3b4139e00837ba3929006820d020 rfl this,hi⟩
theorem jQ(n:Nat)(h:Int)(l:Nat):bd n h l<=n:=ED (EB _ _) (C6 n h l).1
theorem C7{P:Nat->Prop}:∀{l},P l->∃Q,Q<=l/\P Q/\∀y,y<Q->¬P y:=by intro l;induction l using Ii with|ind l ih=>
  intro h;refine(JJ<|∃y,y<l/\P y).elim (λar=>aA ar λy hm hp=>?_) λc=>?_;.refine a4 (ih y hm hp) λQ J L b=>?_;exact⟨Q,ED ‹_›<|Fa ‹_›,L,b⟩
  .exact⟨l,EM _,h,λy hm hp=>c ⟨y,hm,hp⟩⟩
theorem C8(T:Tb t l)(hn:l<=t.mask):∃a,a<=t.mask/\¬dv t a:=by
 refine(JJ<|∃a,a<=t.mask/\¬dv t a).elim (λh=>?_) λc=>?_;.exact h
 .have all:∀a,a<=t.mask->dv t a:=λa hj=>L3.mp λx=>c ⟨a,hj,x⟩;have:∀a,a<=t.mask+1->FL t.place a=a:=by intro a;induction a with|zero=>exactλp=>uv T.rise|succ a ih=>intro hj;obtain⟨i,hi⟩:=all a<|Fp ‹_›;have:=m6 T.rise hi;rw[uu T.rise hi];rw[ih<|Fa ‹_›]at this;rw[this]
  have J:=this _<|EM _;have L:=(gY T.rise<|t.mask+1).2.2;rw[J,T.size]at L;exact(IP ‹_› ‹_›).elim
theorem C9(T:Tb t l)(hm:eB t.mask)(hn:l<=t.mask)(h:Int):∃Q,Q<=10*(13+t.mask)/\¬dv t (bd t.mask h Q)/\∀y,y<Q->dv t (bd t.mask h y):=by refine aA (C8 T hn) λa hj hf=>?_;refine aA (C5 hm h hj) λl J L=>?_;refine a4 (C7 (P:=λl=>¬dv t (bd t.mask h l))<|L▸hf) λQ b h4 h5=>?_;exact⟨Q,ED ‹_› ‹_›,h4,λy hm=>L3.mp<|h5 y hm⟩
def gZ(k:V):Prop:=∃(x:List Nat)(is:List Int),k=.tup (.str x::is.map V.int)
def dH(al:Hc)(A:F7)(h:F6)(k:V)(e:Int×EI):Prop:=∃p,e.2=.ref p/\(aO al A).is h k p/\e.1=a8 A k/\gZ k
section
variable{r:EQ}
theorem C_(F:gZ k)(o:Rep A h Z (.ref p) k):∃Y l,h.get? p=j' (FF "tuple" Y l)/\∀v∈Y.toList,(∃x t,v=.str x t)\/∃i t,v=.int i t:=by
 refine cL F λx is s=>?_;clear F;subst s;refine dJ o.inv λd Y l M g q s=>?_;obtain rfl:=(Pm s).symm;refine dR _ l g ?_;clear g s o;refine q.b7 λv1 f r1 r2=>?_;intro v hv;have:∀(is:List Int)(Y:List EI),Reps A h Z Y (is.map V.int)->∀v∈Y,∃i t,v=.int i t:=by intro is;induction is with|nil=>intro Y q;exact q.et λv hv=>(Ez hv).elim|cons i is ih=>intro Y q;refine q.b7 λv1 f r1 r2=>?_;intro aj hu;exact(EG.mp hu).elim (λe=>e▸r1.d3 λt=>h1 _ _ rfl)<|ih f r2 aj
 exact(EG.mp hv).elim (λe=>.inl<|e▸r1.dc λt=>h1 _ _ rfl) λhv=>.inr<|this is f r2 v hv
set_option smartUnfolding false in
theorem uJ(F:gZ k)(o:Rep A r.heap Z (.ref p) k)(h:C EF r):Ey aw N (L4 8<|.ref p) C aD r:=by
 refine bn (C_ F o) λY l g hv=>?_;refine bnd (y:=typeOf<|.ref p) (λd k=>KP (lH g) k) ?_;refine bnd (y:=pure Do) (λd k=>tk k) ?_;refine bnd (y:=seqItems?<|.ref p) (λd k=>JX g rfl k) ?_;refine s0 (m:=forIn Y (none,()) λu _=>L4 7 u>>=_) ?_;rw[<-JK];refine Jq _ (λw o s'=>o.1=kf/\s'=r/\∀v∈w,v∈Y.toList) _ ?_ ?_ _ _ ⟨rfl,rfl,λv h=>h⟩
 .intro v w o s' s;refine aZ s λO z2 az=>?_;clear s;replace z2:=z2.symm;subst z2;have e:L4 7 v=pure false:=by rcases hv v (az v Eu)with⟨x,t,rfl⟩|⟨i,t,rfl⟩<;>rfl
  rw[e];refine cb<|cP dd<|tk ⟨rfl,rfl,λaj hu=>az aj<|Ev _ hu⟩
 .intro s s' z2;refine aZ z2 λO z3 d=>?_;clear z2;rcases s with⟨r1,r2⟩;clear o g;replace z3:=z3.symm;subst z3;simp only at O;replace O:=O.symm;subst O;exact tk h
theorem C'{p:EZ}{k:V}{stored:List EI}{C:Bool->EQ->Prop}(F:gZ k)(X:(aO al A).is r.heap k p)(hs:∀u∈stored,∃k' b',u=.ref b'/\(aO al A).is r.heap k' b'/\gZ k')(h:C EF r):Ey (EE al A) N (searchCouldBeSeen (.ref p) stored) C aD r:=by
 dsimp only[searchCouldBeSeen];refine s0<|Jq _ (λw o s'=>o.1=kf/\s'=r/\∀v∈w,v∈stored) _ ?_ ?_ _ _ ⟨rfl,rfl,λv h=>h⟩
 .intro v w o s' s;refine aZ s λO z2 az=>?_;clear s;clear h;subst z2;refine cM (hs v<|az v Eu) λk' b' s am Y=>?_;subst s;have done:(none:Option Bool)=none/\s'=s'/\∀v∈w,v∈stored:=⟨rfl,rfl,λaj hu=>az aj<|Ev _ hu⟩;dsimp only;split;.exact tk done
  .refine s0<|(aO al A).quiet X ?_;refine cP dd<|s0<|(aO al A).quiet am ?_;refine cP dd<|s0<|uJ F X.1 ?_;refine cP dd<|s0<|uJ Y am.1 ?_;refine cP dd<|tk done
 .intro s s' z2;refine aZ z2 λO z3 d=>?_;clear z2;rcases s with⟨r1,r2⟩;clear X hs;subst z3;simp only at O;subst O;exact tk h
end
section
variable{r:EQ}
theorem Db(p:EZ):isSame (.ref p) (.ref p)=pure true:=by dsimp only[isSame];show(if(p==p)=Do then _ else _)=_;rw[aF<|beq_self_eq_true p]
theorem lv(T:Tb t l)(hn:l<=t.mask):t.fits l=true:=by delta Pn Po;rw[T.size,T.ic];simp[hn]
theorem Dc{t:HE}(hm:eB t.mask):t.gaveWay=false:=by delta SetTable.gaveWay;rcases hm with h|h|h<;>rw[h]<;>rfl
set_option backward.match.sparseCases true in
theorem Dd(hu:N.units+20<Gz)(ho:r.heap.get? d=j' D)(hd:D.data=.set f ep t)(T:Tb t f.size)(ab:hv t f)(hm:eB t.mask)(hn:f.size<=t.mask)(H:∀e∈f.toList,∃k,dH al A r.heap k e)(X:(aO al A).is r.heap k0 p)(F0:gZ k0)(I:¬dv t (bd t.mask (a8 A k0) Q))(hO:∀y,y<Q->dv t (bd t.mask (a8 A k0) y))(as:Q<=10*(13+t.mask))(q:(∃e∈f.toList,dH al A r.heap k0 e)->C (.there kf) r)(q2:(∀e∈f.toList,¬dH al A r.heap k0 e)->C (.free (bd t.mask (a8 A k0) Q) EF) r):∀E l j,l<=Q->Q-l<E->j.getD (t.probeStart<|a8 A k0)=bj t.mask (a8 A k0) l->(∀y,y<l->∀e,At t f (bd t.mask (a8 A k0) y) e->¬dH al A r.heap k0 e)->Ey (EE al A) N (Iv d (.ref p) (a8 A k0) Do E j) C aD r:=by intro E;induction E with|zero=>intro l j _ h;exact aJ h<|GB _|succ E ih=>
  intro l j Z hf K R;have aa:=lv T hn;dsimp only[Iv];refine bnd (λG k=>FV ho hd aa k) ?_;dsimp only;rw[Dc hm,aC<|by decide,K];have ad:∀(w:Nat->Int),(∀i e,f[i]?=j' e->w i=e.1)->_:=λw hf=>CT (w:=w) (h:=a8 A k0) T hf I hO (10*Jp t.mask) l Z (by show Q-l<10*(t.mask+15);exact aT 0x1dab1cf48549788146382d4a920 rfl as);refine(ad _ λi e he=>by show(f[i]?.map (·.1)).getD 0=e.1;rw[he];rfl).elim (λar=>aN ar λJ L=>?_) λan=>hx an λy i e J L b h4 h5 V=>aN V λh6 h7=>?_
  .generalize hp:Ph t _ _ _=o;obtain rfl:o=j' (.empty (bd t.mask (a8 A k0) Q) kf):=hp.symm.trans J;dsimp only;refine tk<|q2 λe he am=>?_;refine ax ((uz T).mp he) λa hj=>?_;have hh:e.1=a8 A k0:=am.elim λG x=>x.2.2.1;refine aA (CU ab I hj hh) λy m O=>?_;refine(HW y l).elim (λc=>?_) λc=>?_;.exact R y c e (by rw[O];exact hj) am
   .exact L y c m e (by rw[O];exact hj) hh
  .generalize hp:Ph t _ _ _=o;obtain rfl:o=j' (.candidate (bd t.mask (a8 A k0) y) i<|bj t.mask (a8 A k0)<|y+1):=hp.symm.trans b;dsimp only;have aI:e∈f.toList:=(uz T).mpr ⟨_,i,h4,h5⟩;refine hw (H e aI) λk b' e2 am aP Y=>?_;obtain⟨e1,u⟩:=e;have e2:u=.ref b':=e2;clear e2;replace e2:=e2.symm;subst e2;have af:t.sameMemory t.moves t.mask=j' true:=by unfold SetTable.sameMemory;rw[aF<|beq_self_eq_true _]
   have K:∀u∈(f.filter (·.1==a8 A k0)).toList.map (·.2),∃k' b',u=.ref b'/\(aO al A).is r.heap k' b'/\gZ k':=λu hy=>by refine aA (EO.mp hy) λe' ao s=>?_;clear hy;replace s:=s.symm;subst s;rw[Array.toList_filter]at ao;refine hw (H e' (Hv.mp ao).1) λk' ap x1 x2 G x4=>dZ k' ap x1 x2 x4
   have core:∀P,(Ey (EE al A) N (do let n<-Kv [F8 b'] (eqBool (F8 b')<|F8 p)let z<-setState d if(Do&&n)=Do then pure (Li kf)else match z.2.snd.sameMemory t.moves t.mask with
      |some same=>match if same=Do then z.2.snd.slot (bd t.mask (a8 A k0) y)else SetTable.Slot.empty with
       |SetTable.Slot.live S=>match z.fst[S]? with
        |some (_,M)=>do let aq<-isSame M (F8 b')let g6<-pure (if aq=Do then j' S else kf)match g6 with|none=>do rule "set.search.anew"Iv d (F8 p) (a8 A k0) Do E kf|some S=>if n=Do then pure (Li<|j' S)else Iv d (F8 p) (a8 A k0) Do E<|j'<|bj t.mask (a8 A k0)<|y+1
        |none=>do let g6<-pure kf match g6 with|none=>do rule "set.search.anew"Iv d (F8 p) (a8 A k0) Do E kf|some S=>if n=Do then pure (Li<|j' S)else Iv d (F8 p) (a8 A k0) Do E<|j'<|bj t.mask (a8 A k0)<|y+1
       |_=>do let g6<-pure kf match g6 with|none=>do rule "set.search.anew"Iv d (F8 p) (a8 A k0) Do E kf|some S=>if n=Do then pure (Li<|j' S)else Iv d (F8 p) (a8 A k0) Do E<|j'<|bj t.mask (a8 A k0)<|y+1
      |_=>unsupported "set.changed-during-lookup:is-the-new-block-at-the-old-address") C aD r->P)->P:=λP hP=>hP (by
    refine s0<|E4<|(aO al A).eqBool hu am X ?_;refine bnd (λG k=>FV ho hd aa k) ?_;dsimp only;by_cases c:k=k0;.replace c:=c.symm;subst c;refine ie ((dI rfl).trans rfl)<|tk<|q ⟨_,aI,b',rfl,am,aP,Y⟩
    .rw[aC<|by rw[ga c];decide,af];dsimp only;rw[aF rfl,pw T h4];dsimp only;rw[h5];dsimp only;rw[Db];refine cb<|s0<|tk ?_;rw[aF rfl];dsimp only;refine cP (by rw[ga c];decide) ?_;refine ih (y+1) _ L (cy 0x1def6a27b829182a01d061ab82913c20 rfl hf J L) rfl λm' aj e' ao ac=>?_;refine(HW m' l).elim (λc1=>?_) λc1=>?_;.exact R m' c1 e' ao ac
     .refine(Ly<|Fp aj).elim (λc2=>?_) λc2=>?_;.exact h7 m' c1 c2 e' ao<|ac.elim λG x=>x.2.2.1
      .rw[c2]at ao;have:=uy T ao ⟨i,h4,h5⟩;clear ao;replace this:=this.symm;subst this;refine a4 ac λae x1 x2 G=>?_;have x1:F8 b'=.ref ae:=x1;injection x1 with x1;replace x1:=x1.symm;subst x1;exact c<|(aO al A).inj am x2);split;.refine bnd (λG k=>C' F0 X K k) ?_;rw[aC<|by decide,h5];exact core _ id
   .rw[h5];exact core _ id
end
def eC(q:Array<|Option Nat)(a:Nat):Prop:=(q.getD a<|j' 0).isNone=EF
theorem De(hn:bj n h l=jP n h k 0):bj n h (l+(FN n (bJ n h k).1-(bJ n h k).1)+1)=jP n h (k+1) 0:=by show fG n (bj n h<|l+_)=_;rw[pC hn _<|EM _];delta fG IQ;refine(aC<|by show¬0<FN n (bJ n h k).1-(bJ n h k).1-(FN n (bJ n h k).1-(bJ n h k).1);exact aE 0x7aaf7840f08009 rfl).trans ?_;rfl
theorem Df:(∃k,k<l/\j k=Do/\(E3 l).find? j=j' k/\∀y,y<k->j y=EF)\/(E3 l).find? j=none/\∀y,y<l->j y=EF:=by cases e:(E3 l).find? j with|none=>exact .inr ⟨rfl,λy hm=>by have:=List.find?_eq_none.mp e y<|F3.mpr hm;simpa using this⟩|some k=>
  refine .inl ⟨k,F3.mp<|Ma e,List.find?_some e,rfl,λy hm=>?_⟩;obtain⟨_,as,f,J,L⟩:=List.find?_eq_some_iff_append.mp e;have X:as.length<l:=by have:=aY Hk J;rw[Fo,EH]at this;exact aT 0xed401b39c148820 rfl this
  have ek:as.length=k:=by have:=aY (λm:List Nat=>m[as.length]?) J;simp only[GJ X,Gm<|EM _,Jn,IT]at this;exact EA this
  have O:y<as.length:=aT 0x77b5102c115420 rfl hm ek;have:=aY (λm:List Nat=>m[y]?) J;simp only[GJ<|show y<l by exact cy 0x77bda8c1608aa315420 rfl hm X ek,Gb O]at this;have:=L y<|E0 this.symm;simpa using this
theorem Dg:∀E k l,bj n h l=jP n h k 0->(∀y,y<l->eC q (bd n h y))->(∃k',k<=k'/\k'<k+E/\¬eC q (bJ n h k').1)->∃Q,HA n q E (bJ n h k).1 (bJ n h k).2=j' (bd n h Q)/\¬eC q (bd n h Q)/\∀y,y<Q->eC q (bd n h y):=by intro v;induction v with|zero=>rintro k l g g1⟨k',J,L,_⟩;exact(IP ‹_› ‹_›).elim|succ E ih=>
  rintro k l hn ho⟨k',J,L,b⟩;have O:=m8<|pB n h k;have a:∀o,o<FN n (bJ n h k).1+1-(bJ n h k).1->bd n h (l+o)=(bJ n h k).1+o:=λo O=>by unfold bd;exact pC hn o (aT 0x3b478820abc4e0a420 rfl O)▸rfl
  dsimp only[HA];refine Df (l:=FN n (bJ n h k).1+1-(bJ n h k).1) (j:=λo=>(q.getD ((bJ n h k).1+o)<|j' 0).isNone).elim (λan=>b5 an λo d p f i=>?_) λV=>aN V λf i=>?_
  .rw[f];refine⟨l+o,a o d▸rfl,λx=>?_,λy hm=>?_⟩;.unfold eC at x;rw[a o d,p]at x;exact EX x
   .refine(HW y l).elim (λc=>?_) λc=>?_;.exact ho y c
    .have:=i (y-l)<|aT 0x77b513c20a003570820 rfl hm c;have e:=a (y-l)<|gD 0x1ded5e2705217907570083abc4e0a420 rfl d hm;rw[show l+(y-l)=y by exact aE 0x76c173c0105020 rfl c]at e;exact e▸this
  .rw[f];have m:∀y,y<l+(FN n (bJ n h k).1-(bJ n h k).1)+1->eC q (bd n h y):=λy hm=>by
    refine(HW y l).elim (λc=>?_) λc=>?_;.exact ho y c
    .have:=i (y-l)<|gD 0xef6af038290bc83ab82973c0120f7ba3929006820d020 rfl O hm;have e:=a (y-l)<|gD 0xef6af038290bc83ab82973c0120f7ba3929006820d020 rfl O hm;rw[show l+(y-l)=y by exact aE 0x76c173c0105020 rfl c]at e;exact e▸this
   have X:k≠k':=λe=>b (by rw[<-e];have:=m l<|aT 0x2ae0a5cf10400 rfl;have e2:=a 0<|aT 0xed5e0705210277ba3929006820d020 rfl O;rw[Nat.add_zero]at e2;rw[e2]at this;exact this);exact ih (k+1) _ (De hn) m ⟨k',Ig ‹_› ‹_›,by exact aT 0x1dab84e0a420ab9c148820 rfl L,b⟩
theorem Dh(hm:eB n)(h:Int)(hj:a<=n)(hf:¬eC q a):∃Q,HA n q (Jp n) (Ge h%(n+1)) (Ge h)=j' (bd n h Q)/\¬eC q (bd n h Q)/\∀y,y<Q->eC q (bd n h y):=by refine aA (uI hm h hj) λk J L=>?_;exact Dg (n:=n) (q:=q) (h:=h) (Jp n) 0 0 rfl (λy hm=>aJ hm<|GB _) ⟨k,E8 _,by show k<0+(n+15);exact aE 0xed5ce7a4204828e0b520 rfl J,L▸hf⟩
structure LayI(mask:Nat)(owner:Array<|Option Nat)(hs:List Int)(L:List Nat):Prop where
 size:owner.size=mask+1
 len:L.length=hs.length
 nd:L.Nodup
 le:∀j∈L,j<=mask
 own:∀j e:Nat,owner[j]?=some (some e)↔L[e]?=some j
 good:∀(e:Nat)(h:Int),hs[e]?=some h->∃n,L[e]?=some (bd mask h n)/\∀m,m<n->eC owner (bd mask h m)
theorem pD(I:LayI n q hs af)(hj:a<=n):eC q a↔∃e,q[a]?=j' (j' e):=by have ad:a<q.size:=I.size▸FD ‹_›;have hg:q[a]?=j' q[a]:=E6 ad;unfold eC;rw[GX,hg];show q[a].isNone=EF↔_;cases e:q[a]with|none=>exact⟨λh=>EX h,λ⟨_,h⟩=>nomatch h⟩|some e'=>exact⟨λd=>⟨e',rfl⟩,λd=>rfl⟩
theorem Di(hm:eB n)(I:LayI n q hs af)(hl:hs.length<=n)(h:Int):∃a,HA n q (Jp n) (Ge h%(n+1)) (Ge h)=j' a/\LayI n (q.setIfInBounds a<|j' hs.length) (hs++[h]) (af++[a]):=by
 obtain⟨A,o,r⟩:∃a,a<=n/\¬eC q a:=by
  refine(JJ<|∃a,a<=n/\¬eC q a).elim (λx=>?_) λc=>?_;.exact x
  .have:(E3<|n+1).length<=af.length:=Jc Ms λa hj=>by have hj:=F3.mp hj;obtain⟨e,he⟩:=(pD I<|Fp ‹_›).mp<|L3.mp λx=>c ⟨a,Fp ‹_›,x⟩;exact E0<|(I.own a e).mp he
   rw[Fo,I.len]at this;exact(IP ‹_› ‹_›).elim
 refine a4 (Dh hm h o r) λQ J L b=>?_;refine⟨_,J,?_⟩;have j:=jQ n h Q;have aU:∀e:Nat,af[e]?≠j' (bd n h Q):=λe he=>L<|(pD I j).mpr ⟨e,(I.own _ e).mpr he⟩;have f:∀{a:Nat},a<=n->eC q a->eC (q.setIfInBounds (bd n h Q)<|j' hs.length) a:=λ{a}hj ho=>by
  unfold eC;rw[GX,Lj];by_cases c:bd n h Q=a;.rw[aF c,aF<|by rw[I.size];exact FD ‹_›];rfl
  .rw[aC c,<-GX];exact ho
 refine⟨Array.size_setIfInBounds.trans I.size,by rw[EH,EH,I.len,Fj,Fj],?_,λa hj=>?_,λa e=>?_,λe h' he=>?_⟩;.exact Gd.mpr ⟨I.nd,FW _ _,λd ha p hb e=>by rw[ta.mp hb]at e;rw[e]at ha;refine ax (Gj.mp ha) λi hi=>?_;exact aU i hi⟩
 .refine(E1.mp hj).elim (λx=>?_) λx=>?_;.exact I.le a x
  .rw[ta.mp x];exact j
 .rw[Lj];by_cases c:bd n h Q=a
  .rw[aF c,aF<|by rw[I.size];exact FD ‹_›];constructor;.intro x;have:hs.length=e:=EA<|EA x;rw[<-this,<-I.len,Gm<|EM _,Jn,c];rfl
   .intro x;refine(HW e af.length).elim (λu=>?_) λu=>?_;.rw[Gb u]at x;exact aJ (x.trans<|by rw[c])<|aU e
    .have ad:=(EN.mp x).1;rw[EH,Fj]at ad;rw[show e=hs.length by rw[<-I.len];exact aE 0x3bdb0035705200d020 rfl u ad]
  .rw[aC c,I.own];refine(HW e af.length).elim (λu=>?_) λu=>?_;.rw[Gb u]
   .rw[Hd u];refine⟨(λx=>nomatch x),λx=>?_⟩;have ad:=(EN.mp x).1;rw[EH,Fj]at ad;rw[show e=af.length by exact aE 0x3bdb0035705200d020 rfl u ad,Gm<|EM _,Jn]at x;exact aJ (EA x) c
 .refine(HW e hs.length).elim (λu=>?_) λu=>?_;.rw[Gb u]at he;refine aA (I.good e h' he) λl h4 h5=>?_;exact⟨l,(Gb<|by rw[I.len];exact u).trans h4,λy aj=>f (jQ _ _ _)<|h5 y aj⟩
  .have ad:=(EN.mp he).1;rw[EH,Fj]at ad;have m:e=hs.length:=by exact aE 0x3bdb0035705200d020 rfl u ad
   rw[m,Gm<|EM _,Jn]at he;have eh:h=h':=EA he;clear he;subst eh;exact⟨Q,by rw[m,<-I.len,Gm<|EM _,Jn];rfl,λy aj=>f (jQ _ _ _)<|b y aj⟩
theorem Dj(hm:eB n):∀(w hs:List Int)(q:Array<|Option Nat)(af:List Nat),LayI n q hs af->hs.length+w.length<=n->∃d z,w.foldl (λ(ao:Option<|Array (Option Nat)×Nat)h=>do let(q,k)<-ao let a<-HA n q (Jp n) (Ge h%(n+1)) (Ge h)pure (q.setIfInBounds a<|j' k,k+1)) (j' (q,hs.length))=j' (d,(hs++w).length)/\LayI n d (hs++w) z:=by intro v;induction v with|nil=>intro hs q af I g;exact⟨q,af,by rw[FR];rfl,by rw[FR];exact I⟩|cons h w ih=>intro hs q af I hl;rw[Fi]at hl;refine aA (Di hm I (aT 0xed040a09ce0a420 rfl hl) h) λa J L=>?_;refine bn (ih (hs++[h]) _ _ L<|EH.symm▸Fj.symm▸aT 0x1da09c170520a09ce0a420 rfl hl) λo' z b h4=>?_;refine⟨o',z,?_,by rw[FS]at h4;exact h4⟩;rw[List.foldl_cons,show hs++h::w=hs++[h]++w by rw[FS];rfl,<-b];congr 1;show(do let a<-HA n q (Jp n) (Ge h%(n+1))<|Ge h;pure (q.setIfInBounds a<|j' hs.length,hs.length+1))=_;rw[J,EH];rfl
theorem Dk(n:Nat):LayI n (KZ (n+1) none) [] []:=by
 refine⟨K0,rfl,.nil,λa h=>(Ez h).elim,λa e=>⟨λx=>?_,λx=>nomatch x⟩,λe h he=>nomatch he⟩;rw[Array.getElem?_replicate]at x;split at x;.exact nomatch EA x
 .exact nomatch x
theorem Dl(hm:eB n)(hs:Array Int)(hl:hs.size<=n):∃q af,L5 n hs=j' q/\LayI n q hs.toList af:=by obtain⟨D,af,J,L⟩:=Dj hm hs.toList [] _ _ (Dk n) (by simpa using hl);refine⟨D,af,?_,L⟩;unfold L5;rw[<-Array.foldl_toList];exact aY (Option.map (·.1)) J
noncomputable def dA(n:Nat)(q:Array<|Option Nat):List<|Nat×Nat:=(E3<|n+1).filterMap λa=>(q.getD a none).map (a,·)
section
variable{af:List Nat}
theorem hX(I:LayI n q hs af):(a,e)∈dA n q↔af[e]?=j' a:=by
 unfold dA;rw[JS];constructor
 .rintro⟨z,hj,h⟩;refine aA (EY.mp h) λe' J L=>?_;injection L with L b;clear h;subst L b;rw[GX]at J;have ad:z<q.size:=by rw[I.size];exact F3.mp hj
  rw[E6 ad]at J;exact(I.own _ _).mp<|(E6 ad).trans<|aY j' J
 .intro h;have hj:=I.le a<|E0 h;refine⟨a,F3.mpr<|FD ‹_›,?_⟩;rw[GX,(I.own a e).mpr h];rfl
theorem pE:(dA n q).Pairwise λd p=>d.1<p.1:=by unfold dA;refine List.Pairwise.filterMap _ (λd Q ad p hb b' az=>?_) M4;refine aA (EY.mp hb) λar an V=>?_;subst V;refine aA (EY.mp az) λo e b=>?_;subst b;exact ad
theorem Dm(I:LayI n q hs af):((dA n q).map (·.2)).Perm<|E3 hs.length:=by
 refine(LR ?_ Ms).mpr λe=>?_;.refine HY.mpr<|pE.imp_of_mem λ{d p}ha hb ad e=>?_;have J:=(hX I).mp ha;have L:=(hX I).mp hb;rw[show d.2=p.2 from e,L]at J;have:=EA J;exact EP ad this.symm
 .rw[EO,F3];constructor;.rintro⟨⟨a,e'⟩,J,rfl⟩;have:=(EN.mp<|(hX I).mp J).1;exact I.len▸this
  .intro h;rw[<-I.len]at h;exact⟨(af[e],e),(hX I).mpr<|EL h,rfl⟩
theorem Dn(hm:eB n)(f:Array<|Int×EI)(hl:f.size<=n)(s u:Nat)(led plain:Bool):∃t' o,N6 n s u led plain (f.map (·.1))=j' (t',o)/\t'.mask=n/\t'.led=led/\t'.plain=plain/\(o.filterMap (f[·]?)).size=f.size/\(o.filterMap (f[·]?)).toList.Perm f.toList/\Tb t' (o.filterMap (f[·]?)).size/\hv t' (o.filterMap (f[·]?)):=by
 refine bn (Dl hm (f.map (·.1))<|Lk.symm▸hl) λq af J I=>?_;have aw:(f.map (·.1)).toList.length=f.size:=by rw[EU,Lk]
 refine⟨⟨n,((dA n q).map (·.1)).toArray,#[],s,led,u,plain⟩,((dA n q).map (·.2)).toArray,?_,rfl,rfl,rfl,?_⟩;.unfold N6;exact J.symm▸rfl
 have hp:=Dm I;rw[aw]at hp;have ay:(((dA n q).map (·.2)).toArray.filterMap (f[·]?)).toList=((dA n q).map (·.2)).filterMap (f[·]?):=by rw[Array.toList_filterMap]
 have z:(((dA n q).map (·.2)).toArray.filterMap (f[·]?)).toList.Perm f.toList:=by rw[ay];have:=hp.filterMap (f[·]?);rwa[filterMap_getElem?_range f]at this
 have w:(((dA n q).map (·.2)).toArray.filterMap (f[·]?)).size=f.size:=by rw[<-EU,z.length_eq,EU]
 have aI:∀j∈dA n q,j.2<f.size:=λj p=>by have:=(EN.mp<|hX I (a:=j.1) (e:=j.2).mp p).1;rw[I.len,aw]at this;exact this
 have get:∀(m:List<|Nat×Nat),(∀j∈m,j.2<f.size)->∀i:Nat,((m.map (·.2)).filterMap (f[·]?))[i]?=m[i]?.bind λj=>f[j.2]?:=by intro m;induction m with|nil=>exactλd i=>by rw[IE,List.filterMap_nil,OK,OK];rfl|cons j m ih=>intro hl i;have hg:f[j.2]?=j' (f[j.2]'(hl j Eu)):=E6<|hl j Eu;rw[Gq,JQ hg];induction i with|zero=>exact hg.symm|succ i=>rw[Hq,Hq];exact ih (λj hp=>hl j<|Ev _ hp) i
 have A:∀i:Nat,(((dA n q).map (·.2)).toArray.filterMap (f[·]?))[i]?=(dA n q)[i]?.bind λj=>f[j.2]?:=λi=>by rw[<-Fd,ay];exact get _ aI i
 have r:∀i:Nat,((dA n q).map (·.1)).toArray[i]?=(dA n q)[i]?.map (·.1):=λi=>by rw[He,ET]
 refine⟨w,z,⟨?_,rfl,?_,λi a hi=>?_⟩,λa x E=>?_⟩;.rw[m5];exact HY.mpr pE
 .rw[w];show((dA n q).map (·.1)).toArray.size=_;rw[Fk,Ex];have:=hp.length_eq;rw[Ex,Fo]at this;exact this
 .have hi:((dA n q).map (·.1)).toArray[i]?=j' a:=hi;rw[r]at hi;refine aA (EY.mp hi) λj b C=>?_;subst C;exact I.le _<|E0<|hX I (a:=j.1) (e:=j.2).mp<|E0 b
 .obtain⟨i,hi,E⟩:=E;have hi:((dA n q).map (·.1)).toArray[i]?=j' a:=hi;rw[r]at hi;obtain⟨j,b,rfl⟩:=EY.mp hi;rw[A,b]at E;have E:f[j.2]?=j' x:=E;have hL:=hX I (a:=j.1) (e:=j.2).mp<|E0 b;obtain⟨l,h4,h5⟩:=I.good j.2 x.1 (by rw[Fd,Array.getElem?_map,E];rfl);rw[hL]at h4;refine⟨l,(EA h4).symm,λy aj=>?_⟩;refine ax ((pD I<|jQ _ _ _).mp<|h5 y aj) λe he=>?_;refine ax (Gj.mp<|(hX I).mpr<|(I.own _ e).mp he) λS Q=>?_;exact⟨S,by show((dA n q).map (·.1)).toArray[S]?=_;rw[r,Q];rfl⟩
end
section
variable{r:EQ}
theorem Dp(F:gZ k)(o:Rep A r.heap Z (.ref p) k)(h:C EF r):Ey (EE al A) N (hashByValue 8<|.ref p) C aD r:=by refine cL F λx is s=>?_;clear F;subst s;refine o.di λd Y l M g q=>?_;revert g;refine q.b7 λv Y r1 r2=>r1.dc λt1 g=>?_;unfold hashByValue;refine bnd (λd k=>I2 (lH g) F.slot_tuple_hash.lookup k) ?_;dsimp only;refine bnd (λd k=>JX g rfl k) ?_;dsimp only[OW];refine s0 ?_;rw[<-JK];show Ey _ _ (forIn (Value.str _ _::Y) _ _) _ _ r;rw[List.forIn_cons];refine s0<|cb<|tk ?_;exact tk<|tk h
end
structure TS(prog:Program)(w:World)(hb h:Heap)(a:Addr)(S:V->Prop)(led:Bool)(o:Obj)(ep:Nat)(t:SetTable)(es:Array<|Int×Value):Prop where
 ho:h.get? a=some o
 ex:o.ExactSet
 hd:o.data=.set es ep t
 tb:Tb t es.size
 good:hv t es
 fy:eB t.mask
 room:es.size*5<t.mask*3
 el:∀e∈es.toList,∃k,dH prog w hb k e
 mem:∀k,S k↔∃e∈es.toList,dH prog w hb k e
 one:es.toList.Pairwise λe e'=>∀k,dH prog w hb k e->¬dH prog w hb k e'
 led:t.led=led
 plain:es.size≠0->t.plain=false
 base:∀b o,hb.get? b=some o->h.get? b=some o
 na:hb.get? a=.none
section
variable{r:EQ}
theorem m9{h:F6}{d:EZ}{D:Obj}{f R:Array<|Int×EI}{ep:Nat}{t t':HE}(ho:h.get? d=j' D)(hd:D.data=.set f ep t):(h.update d<|Mf R t').get? d=j' {D with data:=.set R (ep+1) t'}:=by have:=FY (Mf R t') ho<|putSet_of R t' hd▸rfl;rw[putSet_of R t' hd]at this;exact this
theorem Dq(ho:r.heap.get? d=j' D)(hd:D.data=.set f ep t)(hf:t.fits f.size=Do)(hm:eB n)(hl:f.size<=n)(hw:JT l=n+1)(q:∀t' R,t'.mask=n->t'.led=t.led->t'.plain=t.plain->R.size=f.size->R.toList.Perm f.toList->Tb t' R.size->hv t' R->C () {r with heap:=r.heap.update d<|Mf R t'}):Ey (EE al A) N (setRelay d l) C aD r:=by
 dsimp only[setRelay];refine bnd (λp k=>FV ho hd hf k) ?_;dsimp only;have a:n<=127:=aB 0x1da0fea073961fd40b7d20b1d20 rfl hm;rw[hw,aC<|Gp▸aB 0x77d57052080000015741fd40 rfl a];refine jV (Dn hm f hl t.finger (t.movedTo n) t.led t.plain) λt' o J L b h4 h5 h6 s=>aN s λh7 E=>?_;have O:t.relaid (f.map (·.1)) l=j' (t',o):=by unfold Pa;exact hw▸J
 rw[O];refine s0<|HO (?_:_=(pure (o.filterMap (f[·]?),t'):J2<|Array (Int×EI)×HE))<|J9 ho hd (q t' _ L b h4 h5 h6 h7 E)<|h5▸Gp▸aE 0x77b48000001560a0fea0d020 rfl hl a;.show(if((o.filterMap (f[·]?)).size !=f.size)=Do then _ else _)=_;rw[aC<|by rw[h5];simp]
set_option tactic.hygienic true in
theorem Dr{C:Bool->EQ->Prop}(hu:N.units+20<Gz)(H:TS al A hb r.heap d S led D ep t f)(hn:f.size<63)(G:(aO al A).is hb k0 p)(F0:gZ k0)(q:∀o h' o' ad t' R,Gs d r.heap h'->TS al A hb h' d (λk=>S k\/k=k0) led o' ad t' R->R.size<=f.size+1->C o {r with heap:=h'}):Ey (EE al A) N (Mu d (.ref p)<|a8 A k0) C aD r:=by
 have aG:∀{k}{p},(aO al A).is hb k p->(aO al A).is r.heap k p:=λx=>⟨nG 6 x.2.2 (λp Y l g=>H.base _ _ g) x.1,x.2⟩;have X:=aG G;have V:∀{k}{e},dH al A hb k e->dH al A r.heap k e:=λx=>x.elim λp u=>⟨p,u.1,aG u.2.1,u.2.2⟩;have dn:∀{k}{e},e∈f.toList->dH al A r.heap k e->dH al A hb k e:=λ{k e}he x=>by refine ax (H.el e he) λk' m=>a4 x λM y1 y2 c=>a4 (V m) λae s z2 c=>?_;rw[y1]at s;injection s with s;subst s;exact(aO al A).inj y2 z2▸m
 have aS:t.mask*3<t.mask*5:=by rcases H.fy with h|h|h<;>rw[h]<;>decide
 have aa:f.size<=t.mask:=by have:=H.room;exact aE 0x1da041568d2169520 rfl this
 have aM:f.size+1<=t.mask:=aE 0xef68170520e72c3fa836fa4363a43568d2169520 rfl H.room H.fy;refine a4 (C9 H.tb H.fy aa<|a8 A k0) λQ as I hO=>?_;have aN:Q<100000:=by have:t.mask<=127:=aB 0x1da0fea073961fd40b7d20b1d20 rfl H.fy;exact aE 0xef6a30d40458283fa8346382d4a920 rfl as this
 unfold Mu Nw;refine E4<|bnd (λc k=>FV H.ho H.hd (lv H.tb aa) k) ?_;dsimp only;refine cP (by unfold byScan;show¬(EF&&_&&_)=Do;simp) ?_;dsimp only[setSearch];refine s0<|Dd hu H.ho H.hd H.tb H.good H.fy aa (λe he=>(H.el e he).elim λk x=>⟨k,V x⟩) X F0 I hO as (λE=>?_) (λE=>?_) 100000 0 kf (E8 _) aN rfl λy hm=>aJ hm<|GB _;.refine tk<|q EF r.heap D ep t f (LZ d r.heap) ⟨H.ho,H.ex,H.hd,H.tb,H.good,H.fy,H.room,H.el,λk=>?_,H.one,H.led,H.plain,H.base,H.na⟩<|GV _;exact⟨λh=>h.elim (H.mem k).mp λe=>e▸E.elim λe' u=>⟨e',u.1,dn u.1 u.2⟩,λh=>.inl<|(H.mem k).mpr h⟩
 .refine m' (i6 H.tb<|bd t.mask (a8 A k0) Q) λe1 e2 e3 Z e5 aq af=>?_;have O:=ux H.tb I<|jQ t.mask (a8 A k0) Q;have G1:=CV (x:=.ref p) H.tb H.good hO;have i:=λ{z e'}=>ls H.tb (a:=bd t.mask (a8 A k0) Q) (x:=((a8 A k0,F8 p):Int×EI)) (z:=z) (e':=e');have aH:=(gY H.tb.rise<|bd t.mask (a8 A k0) Q).2.2;rw[H.tb.size,<-af]at aH;have ac:(GK f (t.put<|bd t.mask (a8 A k0) Q).2 (a8 A k0,F8 p)).size=f.size+1:=by rw[<-EU,GS,EH,Hh,Fi,Kq,EU];exact aE 0x59c1485ce0a5e00c020 rfl
  have aj:=SetTable.insertAt_perm f (t.put<|bd t.mask (a8 A k0) Q).2 (a8 A k0,F8 p);rw[L6]at aj;dsimp only;refine s0<|FV H.ho H.hd (lv H.tb aa) ?_;dsimp only;generalize t.put (bd t.mask (a8 A k0) Q)=tp at e1 e2 e3 Z e5 aq af O G1 i ac aj⊢;obtain⟨t1,j⟩:=tp;dsimp only at e1 e2 e3 Z e5 aq af O G1 ac aj⊢;generalize GK f j (a8 A k0,F8 p)=b at G1 ac aj⊢;have mk:∀h' o' ad t' R,Gs d r.heap h'->h'.get? d=j' o'->o'.ExactSet->o'.data=.set R ad t'->Tb t' R.size->hv t' R->eB t'.mask->R.size*5<t'.mask*3->R.toList.Perm (f.toList++[(a8 A k0,.ref p)])->t'.led=led->t'.plain=EF->TS al A hb h' d (λk=>S k\/k=k0) led o' ad t' R:=λh' o' ad t' R hs ab aw w T' G' M' K am ay aQ=>by
   have new:dH al A hb k0 (a8 A k0,.ref p):=⟨p,rfl,G,rfl,F0⟩;have az:∀{k},dH al A hb k (a8 A k0,.ref p)->k=k0:=λ{k}x=>by refine a4 x λM x1 x2 c=>a4 new λae y1 y2 c=>?_;have x1:F8 p=.ref M:=x1;have y1:F8 p=.ref ae:=y1;injection x1 with x1;injection y1 with y1;rw[<-x1]at x2;rw[<-y1]at y2;exact(aO al A).inj x2 y2
   refine⟨ab,aw,w,T',G',M',K,λe he=>?_,λk=>?_,?_,ay,λc=>aQ,λb' o' e=>(hs.2 b' λx=>by rw[x,H.na]at e;exact aP e).trans<|H.base b' o' e,H.na⟩
   .rcases E1.mp (am.mem_iff.mp he)with he|he;.refine ax (H.el e he) λk x=>⟨k,x⟩
    .exact ta.mp he▸⟨k0,new⟩
   .constructor
    .intro s;clear G F0 q X I hO E aH e1 af i aj az;obtain(x|rfl):=s;.refine aA ((H.mem k).mp x) λe he x=>bm e (am.mem_iff.mpr<|FK _ he) x
     .exact bm _ (am.mem_iff.mpr<|Fz _<|ta.mpr rfl) new
    .intro s;refine aA s λe he x=>?_;rcases E1.mp (am.mem_iff.mp he)with he|he;.exact .inl<|(H.mem k).mpr ⟨e,he,x⟩
     .rw[ta.mp he]at x;exact .inr<|az x
   .refine(am.pairwise_iff λ{x u}h k J L=>h k L J).mpr<|KY.mpr ⟨H.one,FW _ _,λe he e' ao k J L=>?_⟩;rw[ta.mp ao]at L;rw[az L]at J;exact E e he<|V J
  have core:∀t2,t2.mask=t.mask->Tb t2 (f.size+1)->hv t2 b->t2.led=led->t2.plain=EF->Ey (EE al A) N (do storeSet d b t2 if(!EF&&t2.tooFull)=Do then do setRelay d (HK<|f.size+1)pure Do else pure Do) C aD r:=λt2 av T2 G2 an aI=>by
   refine s0<|J9 H.ho H.hd ?_<|ac▸Gp▸aB 0x3b4800000156e0a4150fd40 rfl hn;have g1:=m9 (R:=b) (t':=t2) H.ho H.hd;have ap:=E5 r.heap d<|Mf b t2;have aK:Tb t2 b.size:=ac▸T2;have M2:eB t2.mask:=av▸H.fy;have aL:t2.tooFull=decide ((f.size+1)*5>=t.mask*3):=by unfold SetTable.tooFull Po;exact T2.size▸T2.ic▸av▸rfl
   have room:=H.room;split;.next ar=>
    have hf:(f.size+1)*5>=t.mask*3:=by rw[aL]at ar;simpa using ar
    have:∃n,eB n/\JT (HK<|f.size+1)=n+1/\f.size+1<=n/\(f.size+1)*5<n*3:=by
     rcases H.fy with h|h|h;.have:f.size+1=5:=aE 0x77bdb152e0a4146952e0a40d1a4363a43568d2169520 rfl H.room h hf;exact this.symm▸ee 31 (.inr<|.inl rfl) (by decide+kernel) dd dd
     .have:f.size+1=19:=aE 0x77bdb4d2e0a4146952e0a40d1a436fa43568d2169520 rfl H.room h hf;exact this▸ee 127 (.inr<|.inr rfl) (by decide+kernel) dd dd
     .exact(aE 0x3bdeeaa1fa8346952e0a42d1a4161fd40 rfl h hf hn).elim
    refine b5 this λn m1 m2 bI aR=>s0<|Dq (n:=n) g1 rfl (lv aK<|ac▸av▸aM) m1 (ac▸bI) m2 λt' R x1 x2 x3 x4 x5 x6 x7=>tk ?_;refine q Do _ _ _ t' R (ap.trans<|E5 _ d _) (mk _ _ _ t' R (ap.trans<|E5 _ d _) (m9 g1 rfl) H.ex rfl x6 x7 (x1▸m1) (x4▸ac▸x1▸aR) (x5.trans aj) (x2.trans an)<|x3.trans aI)<|x4▸ac▸EM _
   .next ar=>
    have hf:¬(f.size+1)*5>=t.mask*3:=by rw[aL]at ar;simpa using ar
    exact tk<|q Do _ _ _ t2 b ap (mk _ _ _ t2 b ap g1 H.ex rfl aK G2 M2 (ac▸av▸Nat.lt_of_not_le ‹_›) aj an aI)<|ac▸EM _
  split;.refine bnd (λc k=>Dp F0 X.1 k) ?_;rw[aC E2];exact core _ e3 ⟨O.rise,O.ic,O.size,O.top⟩ G1 (Z.trans H.led) rfl
  .next hp=>refine cb ?_;rw[aF rfl];exact core t1 e3 O G1 (Z.trans H.led)<|by simpa using hp
end
theorem lw(t:HE)(l:Nat):Tb (t.standIn l) l:=by
 have get:∀i a,(Array.range l)[i]?=j' a->a=i/\i<l:=λi a h=>by refine ax (FG.mp h) λJ L=>?_;rw[Array.getElem_range]at L;rw[O1]at J;exact⟨L.symm,J⟩
 refine⟨λi k d p h ha hb=>?_,rfl,O1,λi a h=>?_⟩;.exact gD 0x77bda905ba8c3609375182c015420 rfl h (get i d ha)<|get k p hb
 .show a<=4*l+4;exact aT 0x1da38896088906ea20d820 rfl<|get i a h
theorem Ds(T:Tb t l):Tb (t.orStandIn l) l:=by
 delta Ow;split;.exact T
 .exact lw t l
theorem Dt(T:Tb t l):∀E k{a}{G},Gy t w h E (bj t.mask h k)=j' (.empty a G)->G=none/\¬dv t a/\a<=t.mask:=by intro v;induction v with|zero=>intro g g1 g2 e;exact aP e|succ E ih=>
  intro k a G e;refine(JJ<|dv t<|bd t.mask h k).elim (λar=>ax ar λi hi=>?_) λho=>?_
  .rw[uE (j:=bj t.mask h k)<|pw T hi]at e;split at e;.cases e
   .exact ih (k+1) e
  .rw[uD (j:=bj t.mask h k)<|uw T ho]at e;injection e with e;injection e with e1 e2;subst e1;exact⟨e2.symm.trans<|uB _ _ _,ho,jQ _ _ _⟩
theorem Du(T:Tb t f.size)(h:Int)(x:EI):Tb (layNew t f h x).2.1 (layNew t f h x).1.size/\(layNew t f h x).2.1.led=t.led:=by delta layNew SetTable.freeSlot;cases e:t.probe (λd=>h+1) h (t.probeStart h)with|none=>dsimp only;rw[Pb];exact⟨lw t _,rfl⟩|some y=>induction y with|candidate a i nx=>dsimp only;rw[Pb];exact⟨lw t _,rfl⟩|empty a G=>
   refine aZ (Dt T _ 0 e) λs ho hj=>?_;clear e;subst s;dsimp only[OX];refine m' (i6 T a) λe1 e2 e3 Z e5 aq af=>?_;have hb:=(gY T.rise a).2.2;rw[T.size,<-af]at hb;have ac:(GK f (t.put a).2 (h,x)).size=f.size+1:=by rw[<-EU,GS,EH,Hh,Fi,Kq,EU];exact aE 0x59c1485ce0a5e00c020 rfl
   rw[ac];refine⟨Ds<|ux T ho hj,?_⟩;delta Ow;split;.exact Z
   .exact Z
set_option tactic.hygienic true in
theorem Dv(l:Nat):Tb (Kr t f l).2.1 (Kr t f l).1.size/\(Kr t f l).2.1.led=t.led:=by unfold Kr;cases e:t.relaid (f.map (·.1)) l with|none=>exact⟨lw t _,rfl⟩|some j=>
  obtain⟨t',o⟩:=j;dsimp only;split;.next hc=>unfold Pa N6 at e;cases e2:L5 (JT l-1)<|f.map (·.1)with|none=>rw[e2]at e;exact aP e|some q=>
    rw[e2]at e;have e:j' (_,_)=j' (t',o):=e;injection e with e;injection e with e3 Z;clear e;subst e3;have hf:=(Ft _ _▸hc).2;refine⟨⟨?_,rfl,?_,λi a hi=>?_⟩,rfl⟩;.rw[m5];exact HY.mpr pE
    .unfold Pn at hf;exact eq_of_beq (Ft _ _▸hf).1
    .have hi:((dA (JT l-1) q).map (·.1)).toArray[i]?=j' a:=hi;rw[He,ET]at hi;refine aA (EY.mp hi) λj b s=>?_;subst s;have:=E0 b;unfold dA at this;refine aA (JS.mp this) λz m h4=>aA (EY.mp h4) λd d s=>?_;subst s;exact Fp<|F3.mp m
  .exact⟨lw t _,rfl⟩
structure IS(prog:Program)(w:World)(h:Heap)(a:Addr)(S:Int->Prop)(led:Bool)(o:Obj)(ep:Nat)(t:SetTable)(es:Array<|Int×Value):Prop where
 ho:h.get? a=some o
 ex:o.ExactSet
 hd:o.data=.set es ep t
 tb:Tb t es.size
 ij:t.fits es.size=true
 el:ElemsOf (intKind prog w) es.toList
 mem:∀k,S k↔∃e∈es.toList,(intKind prog w).is k e.2=true
 one:es.toList.Pairwise λe e'=>∀k,(intKind prog w).is k e.2=true->¬(intKind prog w).is k e'.2=true
 led:t.led=led
section
variable{r:EQ}
@[elab_as_elim]theorem p4{P:α×β×γ×δ->Prop}(af:α×β×γ×δ)(h:∀d p c G,P (d,p,c,G)):P af:=h af.1 af.2.1 af.2.2.1 af.2.2.2
@[elab_as_elim]theorem p3{P:α×β×γ->Prop}(af:α×β×γ)(h:∀d p c,P (d,p,c)):P af:=h af.1 af.2.1 af.2.2
theorem Dw(H:IS al A r.heap d S led D ep t f)(hn:f.size<100)(q:∀o h' o' ad t' R,Gs d r.heap h'->IS al A h' d (λk=>S k\/k=i) led o' ad t' R->R.size<=f.size+1->C o {r with heap:=h'}):Ey (EE al A) N (Mu d (.int i aj)<|(Gu al A).hash i) C aD r:=by
 have aa:(Gu al A).is i (.int i aj)=true:=intKind_is _ _ _ _;have hb:f.size<scanBound:=by unfold scanBound;exact ED ‹_› dd
 unfold Mu Nw;refine E4<|bnd (λc k=>FV H.ho H.hd H.ij k) ?_;dsimp only;rw[byScan_of (knd:=Gu al A) rfl hb H.el];rw[aF rfl];unfold setAddByScan;refine s0<|bnd (λc k=>G9 k)<|s0<|wpAny_setScan_of aa H.ho H.hd H.ij H.el ?_;cases O:List.findIdx? (λe=>(Gu al A).is i e.2) f.toList with|some a=>dsimp only;refine aA (Kd.mp O) λhj Q c=>?_;refine tk<|tk<|q EF r.heap D ep t f (LZ d r.heap) ⟨H.ho,H.ex,H.hd,H.tb,H.ij,H.el,λk=>⟨λh=>h.elim (H.mem k).mp λe=>e▸⟨f.toList[a],IM hj,Q⟩,λh=>.inl<|(H.mem k).mpr h⟩,H.one,H.led⟩<|GV _|none=>
  dsimp only;have E:∀e∈f.toList,¬(Gu al A).is i e.2=true:=λe he x=>by have:=L'.mp O e he;rw[x]at this;exact EX this
  have V:∀p{l}{y},y () l->Ey (EE al A) N (match p with|true=>rule "set.scan.the-table-gave-way"|false=>pure ()) y aD l:=λp l y hq=>by induction p<;>first|exact tk hq|exact G9 hq
  have z:=layNew_perm t f ((Gu al A).hash i)<|.int i aj;have m:=layNew_fits t f ((Gu al A).hash i)<|.int i aj;have j:=Du H.tb ((Gu al A).hash i)<|.int i aj;generalize layNew t f ((Gu al A).hash i) (.int i aj)=af at z m j⊢;revert z m j;refine p4 af λb t1 X Z z m j=>?_;dsimp only at z m j⊢;rw[L6]at z;have ac:b.size=f.size+1:=EU▸z.length_eq▸EH▸EU▸rfl;have mk:∀h' o' ad t' R,h'.get? d=j' o'->o'.ExactSet->o'.data=.set R ad t'->Tb t' R.size->t'.fits R.size=Do->R.toList.Perm (f.toList++[((Gu al A).hash i,.int i aj)])->t'.led=led->IS al A h' d (λk=>S k\/k=i) led o' ad t' R:=λh' o' ad t' R ab aw w T' f' am ay=>by
   refine⟨ab,aw,w,T',f',(H.el.push aa rfl).perm am,λk=>?_,?_,ay⟩
   .constructor
    .intro s;clear q O E z;obtain(x|rfl):=s;.refine aA ((H.mem k).mp x) λe he x=>bm e (am.mem_iff.mpr<|FK _ he) x
     .exact bm _ (am.mem_iff.mpr<|Fz _<|ta.mpr rfl) aa
    .intro s;refine aA s λe he x=>?_;rcases E1.mp (am.mem_iff.mp he)with he|he;.exact .inl<|(H.mem k).mpr ⟨e,he,x⟩
     .rw[ta.mp he]at x;exact .inr<|(Gu al A).inj _ _ _ x aa
   .refine(am.pairwise_iff λ{x u}h k J L=>h k L J).mpr<|KY.mpr ⟨H.one,FW _ _,λe he e' ao k J L=>?_⟩;rw[ta.mp ao]at L;rw[(Gu al A).inj _ _ _ L aa]at J;exact E e he J
  have core:∀(g:Bool->J2 Unit),(∀(p:Bool)(l:EQ)(y:Unit->EQ->Prop),y () l->Ey (EE al A) N (g p) y aD l)->∀t2:HE,Tb t2 b.size->t2.fits b.size=Do->t2.led=led->Ey (EE al A) N (do
    storeSet d b t2 if(!X&&t2.tooFull)=Do then do
     g (Kr t2 b<|HK b.size).2.2
     storeSet d (Kr t2 b<|HK b.size).1 (Kr t2 b<|HK b.size).2.1
     pure (j' Do)else pure<|j' Do) (λ(o:Option Bool)s'=>Ey (EE al A) N (match o with|some Y=>pure Y|kf=>Nw d (.int i aj) ((Gu al A).hash i) 99999) C aD s') aD r:=λg hg t2 T2 f2 an=>by
   refine s0<|J9 H.ho H.hd ?_<|ac▸Gp▸ED ‹_› dd;have g1:=m9 (R:=b) (t':=t2) H.ho H.hd;have ap:=E5 r.heap d<|Mf b t2;split;.have hp:=relayAll_perm t2 b<|HK b.size;have I:=relayAll_fits t2 b<|HK b.size;have G:=Dv (t:=t2) (f:=b)<|HK b.size;generalize Kr t2 b (HK b.size)=Rl at hp I G⊢;revert hp I G;refine p3 Rl λK n ae hp I G=>?_;dsimp only at hp I G⊢;have M:K.size=b.size:=EU.symm.trans<|hp.length_eq.trans EU;refine bnd (λc k=>hg _ _ _ k)<|s0<|J9 g1 rfl ?_<|M▸ac▸Gp▸ED ‹_› dd;exact tk<|tk<|q Do _ _ _ n K (ap.trans<|E5 _ d _) (mk _ _ _ n K (m9 g1 rfl) H.ex rfl G.1 I (hp.trans z)<|G.2.trans an)<|M▸ac▸EM _
   .exact tk<|tk<|q Do _ _ _ t2 b ap (mk _ _ _ t2 b g1 H.ex rfl T2 f2 z an)<|ac▸EM _
  refine s0<|V _ ?_;split;.refine s0 ?_;rw[hashByValue_scannable 8 (x:=.int i aj) rfl];refine tk<|core _ ?_ t1 j.1 m<|j.2.trans H.led;intro p l y hq;induction p<;>first|exact tk hq|exact G9 hq
  .refine cb<|core _ ?_ t1 j.1 m<|j.2.trans H.led;intro p l y hq;induction p<;>first|exact tk hq|exact G9 hq
end
section
variable{al:Hc}{A:F7}{N:GI}{R:Nj->EQ->Prop}{I:EZ}{m a:List EZ}{ab:Array GenState->Array GenState->Prop}{l:Nat}{P:Nat->EI->Prop}{St:Nat->EQ->Prop}
theorem Dx(W:WalksS al A N.in1 I m a ab l P St)(S:EZ)(b:S∉m)(f:Nat->F6->Prop)(d:∀i h h',f i h->(∀p D,p∉a->h.get? p=j' D->h'.get? p=j' D)->f i h')(add:∀i v(r:EQ)(aD:EI->EQ->Prop)(C:Bool->EQ->Prop),i<l->P i v->f i r.heap->(∀o h' aO,r.toks<=aO->Gs S r.heap h'->f (i+1) h'->C o {r with heap:=h',toks:=aO})->Ey (EE al A) N.in1 (Nx S v) C aD r):∀k i r,l-i=k->i<=l->St i r->f i r.heap->(∀s',Moved (S::a) ab r s'->f l s'.heap->R (.ok<|.ret .none) s')->Hl (EE al A) N (.builtin "set.update.loop" ⟨[.ref S,.ref I],[]⟩) R r:=by have H:S∉a:=λh=>b<|W.sub _ h;have n:∀p∈a,p∈S::a:=λp hb=>Ev _ hb;intro k;induction k with|zero=>intro i r X hi K z hR;have aI:i=l:=aE 0x3bdb0034006c04bc20 rfl X hi;clear add X hi;subst aI;refine Jd JU ?_;rw[IA Ih _];show Ey _ N.in1 (Ix (.ref I)>>=_) _ _ r;refine s0<|W.done r _ _ K λs' hm=>?_;show Ey _ N.in1 (ret GZ) _ _ s';exact tk<|hR s' (hm.mono n)<|d _ _ _ z λp D hb e=>hm.heap p D hb e|succ k ih=>
  intro i r X hi K z hR;have ad:i<l:=aT 0xed401b382913c20 rfl X;refine Jd JU ?_;rw[IA Ih _];show Ey _ N.in1 (Ix (.ref I)>>=_) _ _ r;refine s0<|W.item i r _ _ ad K λv s' hP s hm=>?_;have y:f i s'.heap:=d _ _ _ z λp D hb e=>hm.heap p D hb e;show Ey _ N.in1 (Kv [v] (Nx S v)>>=_) _ _ s';refine s0<|E4<|add i v s' _ _ ad hP y λo h' aO q j u=>?_;refine tk ⟨LU Ih _,ih (i+1) _ (aT 0x1db09ee0a420b382913c20 rfl X) ad (W.frame _ s' _ _ s q λp hb D e=>?_) u λw E G=>?_⟩;.rw[j.2 p λh:p=S=>b<|h▸hb];exact e
  .refine hR w (Moved.trans W.gtrans ((hm.mono n).then_heap q λp D hb e=>?_) E) G;rw[j.2 p λh:p=S=>hb<|h▸Eu];exact e
end
section
variable{r:EQ}
theorem Dy{hb:F6}{d p:EZ}{S:V->Prop}{led:Bool}{D:Obj}{ep:Nat}{t:HE}{f:Array<|Int×EI}{k0:V}{C:Bool->EQ->Prop}(hu:N.units+20<Gz)(H:TS al A hb r.heap d S led D ep t f)(hn:f.size<63)(X:(aO al A).is hb k0 p)(F0:gZ k0)(q:∀o h' af o' ad t' R,r.toks<=af->Gs d r.heap h'->TS al A hb h' d (λk=>S k\/k=k0) led o' ad t' R->R.size<=f.size+1->C o {r with heap:=h',toks:=af}):Ey (EE al A) N (Nx d<|.ref p) C aD r:=by unfold Nx;refine E4<|s0<|(aO al A).pyHash hu (k:=k0) ⟨nG 6 X.2.2 (λp Y l g=>H.base _ _ g) X.1,X.2⟩ ?_;exact Dr (r:={r with toks:=r.toks+(aO al A).draws k0}) hu H hn X F0 λo h' o' ad t' R J L b=>q o h' _ o' ad t' R (EB _ _) J L b
theorem Dz{d:EZ}{S:Int->Prop}{led:Bool}{D:Obj}{ep:Nat}{t:HE}{f:Array<|Int×EI}{i:Int}{aj:Tok}{C:Bool->EQ->Prop}(H:IS al A r.heap d S led D ep t f)(hn:f.size<100)(q:∀o h' af o' ad t' R,r.toks<=af->Gs d r.heap h'->IS al A h' d (λk=>S k\/k=i) led o' ad t' R->R.size<=f.size+1->C o {r with heap:=h',toks:=af}):Ey (EE al A) N (Nx d<|.int i aj) C aD r:=by unfold Nx;refine E4<|s0<|(Gu al A).pyHash (k:=i) (intKind_is _ _ _ _) ?_;exact Dw (r:={r with toks:=r.toks+1}) H hn λo h' o' ad t' R J L b=>q o h' _ o' ad t' R (GV _) J L b
noncomputable def ed(A:F7):Bool:=A.params.followText "set-order"
theorem m_{C:Bool->EQ->Prop}(h:C (ed A) r):Ey (EE al A) N setsByText C aD r:=by unfold setsByText;exact s0<|Js<|tk h
noncomputable def eO(A:F7):Obj:={cls:=.type "set",dict:=none,data:=.set #[] 0<|.fresh 0 0 !ed A}
theorem uK(led:Bool):Tb (.fresh 0 0 led) 0:=⟨λi k d p h ha=>aP<|K4.symm.trans ha,rfl,rfl,λi a h=>aP<|K4.symm.trans h⟩
theorem DA{hb h:F6}{d:EZ}(ho:h.get? d=j' (eO A))(base:∀p D,hb.get? p=j' D->h.get? p=j' D)(b:hb.get? d=kf):TS al A hb h d (λc=>False) (!ed A) (eO A) 0 (.fresh 0 0 !ed A) #[]:=⟨ho,⟨rfl,rfl,rfl⟩,rfl,uK _,λa e⟨i,h,_⟩=>aP<|K4.symm.trans h,.inl rfl,show 0*5<7*3 by decide,λe h=>(Ez h).elim,λk=>⟨HQ,λ⟨_,h,_⟩=>(Ez h).elim⟩,.nil,rfl,λh=>aJ rfl h,base,b⟩
theorem DB{h:F6}{d:EZ}(ho:h.get? d=j' (eO A)):IS al A h d (λp=>False) (!ed A) (eO A) 0 (.fresh 0 0 !ed A) #[]:=⟨ho,⟨rfl,rfl,rfl⟩,rfl,uK _,rfl,λe h=>(Ez h).elim,λk=>⟨HQ,λ⟨_,h,_⟩=>(Ez h).elim⟩,.nil,rfl⟩
end
section
variable{r:EQ}
theorem DC(d:EI)(h:j (.ref r.heap.objs.size) {r with heap:=r.heap.push<|eO A}):Hl (EE al A) N (.call (.builtin "set.__new__") ⟨[.type "set",d],[]⟩) (wants j aD) r:=by refine MN ?_;show Ey _ N.in1 (do checkBuiltinCall "set.__new__" ⟨[.type "set",d],[]⟩;again<|.builtin "set.__new__" ⟨[.type "set",d],[]⟩) _ _ r;refine bnd (λp k=>HO (PySem.F.newCall_set_1 d) k)<|tk ⟨LU Ny _,Jd PySem.F.entry_set_new ?_⟩;rw[IA Ny _];delta Im.«set.__new__»Builtin.Frozenset.newClass;have n:=sub_set_self;obtain⟨hp,g,G,aO,os⟩:=r;dsimp only;wp_walk;refine Js<|tk ?_;dsimp only;dsimp only[newObj];refine bnd (λp k=>wpAny_alloc k)<|tk ?_;exact tk h
end
section
variable{r:EQ}
set_option maxHeartbeats 3200000 in
theorem uL(hh:N.handled=kf)(hl:r.heap.IsList m items)(f:Nat->F6->Prop)(Q:∀h',h'.get? r.heap.objs.size=j' (eO A)->(∀p D,r.heap.get? p=j' D->h'.get? p=j' D)->f 0 h')(d:∀i h h',f i h->(∀p D,p≠r.heap.objs.size+1->h.get? p=j' D->h'.get? p=j' D)->f i h')(add:∀A' i v(ae:EQ)(aD:EI->EQ->Prop)(C:Bool->EQ->Prop),A'.units<=N.units+10->items[i]?=j' v->f i ae.heap->(∀o h' aO,ae.toks<=aO->Gs r.heap.objs.size ae.heap h'->f (i+1) h'->C o {ae with heap:=h',toks:=aO})->Ey (EE al A) A' (Nx r.heap.objs.size v) C aD ae)(h:∀h' aO,f items.size h'->(∀p D,p<r.heap.objs.size->r.heap.get? p=j' D->h'.get? p=j' D)->C (.ref r.heap.objs.size) {r with heap:=h',toks:=aO}):Ey (EE al A) N (Hg (.type "set") [.ref m]) C aD r:=by
 refine cL Hj.mro λc tl az=>?_;have aA:=Hj.made;have n:=Hj.sub;refine wpAny_call<|MN ?_;show Ey _ _ (callAny (.type "set") _) _ _ _;refine tk ⟨Code.quiet_builtin _<|by decide+kernel,Jd PySem.F.entry_type_call ?_⟩;rw[Around.under_plain (weight_type_call_type "set" [.ref m] []) rfl];have J:=Hj.notType;have L:=Hj.canCreate;have aC:=PySem.F.typeCall_set_1<|.ref m;repeat(any_goals(first|assumption|wp_step))
 refine IJ (DC (.ref m) (aD:=aD) (j:=λobj l=>obj=.ref r.heap.objs.size/\l={r with heap:=r.heap.push<|eO A}) ⟨rfl,rfl⟩) λo l O=>?_;induction o with|error e=>exact O|ok fl=>induction fl with
  |ret obj=>
   refine aN O λs z2=>?_;clear O;subst s;subst z2;have z:(r.heap.push<|eO A).get? r.heap.objs.size=j' (eO A):=ES _ rfl;have hT:NX {r with heap:=r.heap.push<|eO A} (.ref r.heap.objs.size) "set":=⟨_,z,rfl⟩;have aE:=Hj.init.lookup;have aF:=Hj.init.bind<|.ref r.heap.objs.size;repeat(any_goals(first|assumption|wp_step))
   refine IJ (codeAny_call_builtin (R:=wants (λo I=>o=.none/\∃h' aO,I={r with heap:=h',toks:=aO}/\f items.size h'/\∀p D,p<r.heap.objs.size->r.heap.get? p=j' D->h'.get? p=j' D) aD) Hj.init.plain PySem.F.entry_set_init<|check_set_init_1 hT ?_) λZ I a=>?_
   .refine a4 hl λE V X s=>ax s λS ad=>?_;obtain⟨aG,aa,aH,ab⟩:=E;simp only at X ad;subst X;subst ad;have aj:(r.heap.push<|eO A).get? m=j' {cls:=.type "list",dict:=aa,data:=.seq items S,slots:=ab}:=EV _ V;have aI:=PySem.F.sub_list_set;have aJ:=PySem.F.sub_list_frozenset;have K:(NU "list"==NU "dict")=false:=by decide
    have G:(r.heap.push<|eO A).IsList m items:=⟨_,aj,rfl,S,rfl⟩;unfold Im.«set.__init__»noKeywords Builtin.Frozenset.updateFrom;generalize an:Ju=PI;wp_walk;subst an;refine J5 G<|s0<|wpAny_runValue ?_;have Y:m<r.heap.objs.size:=E_ V;have ao:N.in1.in1.in1.handled=.none:=by simp[hh]
    have ac:(r.heap.push<|eO A).objs.size=r.heap.objs.size+1:=HG ..;have ap:m≠(r.heap.push<|eO A).objs.size:=ac▸EP (Gn Y);have b:r.heap.objs.size∉[(r.heap.push<|eO A).objs.size,m]:=by rw[ac];simp only[EG,ta,Ez,or_false,not_or];exact⟨EP<|Fq _,EW Y⟩
    refine Dx (Walks.list ao _ m ap items).toS r.heap.objs.size b f (λi h h' x u=>d i h h' x λp D hb e=>u p D (λhm=>hb<|ac▸ta.mp hm) e) (λi v ae aD C hi hP as q=>add _ i v ae aD C (by show N.units+1+1+1<=N.units+10;exact aB 0x51ca481c14b82970520 rfl) hP as q) (items.size-0) 0 _ rfl (E8 _) ⟨⟨_,ES _ rfl,rfl,rfl⟩,G.push _⟩ ?ar ?hR;case ar=>exact Q _ (EV _ z) λp D e=>EV _<|EV _ e
    case hR=>intro s' hm y;obtain⟨h',g',H,af,av⟩:=s';have w:g'=r.gens:=hm.gens;have aw:H=r.drawn:=hm.drawn;have M:av=r.os:=hm.os;subst w;subst aw;subst M;show Ey _ _ _ _ _ _;refine tk ?_;show Ey _ _ (ret GZ) _ _ _;refine tk ⟨rfl,h',af,rfl,y,λp D hb e=>?_⟩;have aK:p≠r.heap.objs.size:=EP hb;have aq:p≠(r.heap.push<|eO A).objs.size:=ac▸EP (Gn hb);exact hm.heap p D (by simp only[EG,ta,Ez,or_false,not_or];exact⟨aK,aq⟩)<|EV _<|EV _ e
   .induction Z with|error e=>exact a|ok ay=>
     induction ay with|ret o=>
      refine aN a λs z2=>cM z2 λh' aO z3 y am=>?_;clear a;subst s;subst z3;repeat(any_goals(first|assumption|wp_step))
      exact h _ _ y am|_=>exact a.elim
  |_=>exact O.elim
end
theorem pF:∀{m:List α}{i:Nat}{x:α},m[i]?=j' x->m.Perm (x::m.eraseIdx i)|u::m,0,x,h=>by rw[IT]at h;obtain rfl:=EA h;exact J1 _|u::m,i+1,x,h=>by rw[Hq]at h;rw[List.eraseIdx_cons_succ];exact(Pj u<|pF h).trans<|List.Perm.swap x u _
set_option tactic.hygienic true in
theorem DD(next:Nat->Nat):∀(E k:Nat)(left:List α)(j:Array α),left.length<=E->(Pp next E k left j).toList.Perm (j.toList++left):=by intro v;induction v with
 |zero=>intro k left j h;induction left with|nil=>rw[FR];exact J1 _|cons x m=>exact aJ h<|by trivial
 |succ E ih=>intro k left j h;dsimp only[Pp];cases e:left[next k%left.length]? with
  |none=>induction left with|nil=>exact Pc (FR _).symm|cons x m=>have:=Ga.mp e;exact aJ (K3 (next k)<|show 0<(x::m).length from Jo _)<|Gf.mpr this
  |some x=>have hp:=pF e;have hl:=hp.length_eq;rw[Fi]at hl;refine(ih (k+1) _ (j.push x)<|aT 0x1ded022b38291028e0a420 rfl h hl).trans ?_;rw[L6,FS];exact List.Perm.append_left _ hp.symm
set_option tactic.hygienic true in
theorem uM(next:Nat->Nat)(z:Array α):(pickOrder next z).toList.Perm z.toList:=by have:=DD next z.size 0 z.toList #[]<|Hx<|EU ..;exact this
theorem DE(hn:l≠0)(h:∀i G,i<l->C i {r with drawn:=G}):Ey aw N (choose b l) C aD r:=λΓ j a=>by dsimp only[choose];rw[Sem.wp_choose];exact⟨hn,h _ _<|K3 _<|Nat.pos_of_ne_zero hn⟩
theorem uN:∀(l:Nat)(z:List α)(r:EQ)(C:List α->EQ->Prop),z.length<=l->(∀ys G,ys.Perm z->C ys {r with drawn:=G})->Ey aw N (drawOrder l z) C aD r
 |0,z,r,C,h,q=>by induction z with|nil=>exact tk<|q [] r.drawn<|J1 _|cons x m=>exact aJ h<|by simp
 |l+1,[],r,C,_,q=>tk<|q [] r.drawn<|J1 _|l+1,a::m,r,C,h,q=>by dsimp only[drawOrder];refine s0<|DE (Nat.succ_ne_zero _) λi G hi=>?_;have hg:(a::m)[i]?=j' (a::m)[i]:=EL hi;rw[hg];dsimp only;have hp:=pF hg;have f:((a::m)[i]::(a::m).eraseIdx i).length=((a::m).eraseIdx i).length+1:=Fi;refine s0<|uN l _ _ _ (cy 0x1def6811d9c148c561028e0a420 rfl h hp.length_eq f) λys H hy=>tk<|q _ H<|(Pj _ hy).trans hp.symm
theorem jR:Slot "set_iterator" "__next__" "set_iterator.__next__":=.of (owner:="set_iterator") (n:="__next__") (by rw[typeLookup_type,Nz];kernel_rfl) (by decide+kernel) (by decide+kernel) (by decide+kernel) (by first|exact .inl<|by decide+kernel|exact .inr<|by decide+kernel)<|by rw[NA];kernel_rfl
theorem uO:entryFor table "set_iterator.__next__"=j' Builtin.«set_iterator.__next__»:=entryFor_of_tree<|by kernel_rfl
theorem uP:Manifest.owners.lookup (String.ofList ['r','o','t','a','r','e','t','i','_','t','e','s'].reverse)=j' Manifest.sig_set_iterator:=by kernel_rfl
theorem uQ(d:EI):argsOk "set_iterator.__next__" ⟨[d],[]⟩:=by unfold argsOk;rw[signature?_of (id:="set_iterator.__next__") (n:=['_','_','t','x','e','n','_','_']) (o:=['r','o','t','a','r','e','t','i','_','t','e','s']) (by kernel_rfl) uP];kernel_rfl
theorem DF:entryFor table "set.__iter__"=j' Builtin.«frozenset.__iter__»:=Nd (id':="frozenset.__iter__") (by kernel_rfl) rfl (by decide+kernel)<|by kernel_rfl
inductive SM(w:World)(S:Addr)(es:Array<|Int×Value)(ep:Nat)(t:SetTable)(ord:List Value)(T:Addr)(h:Heap)(i:Nat):Value->Prop|text:ed w=true->ord=(pickOrder (w.params.setOrder S ep) es).toList.map (·.2)->SM w S es ep t ord T h i (.int 0 0)|drawn(ps:List Nat)(n:Nat):ed w=false->h.get? T=some (seqObj "tuple" (ps.map λ(i:Nat)=>rawInt i).toArray n)->ps.map (λp=>es[p]?.map (·.2))=ord.map some->SM w S es ep t ord T h i (.ref T)|led(j:Nat):ed w=false->(!t.plain&&decide (es.size>1))=false->(!t.led&&!es.isEmpty)=false->SetTable.below t.place j=i->ord=es.toList.map (·.2)->SM w S es ep t ord T h i (.int j 0)
structure SI(w:World)(S I:Addr)(es:Array<|Int×Value)(ep:Nat)(t:SetTable)(ord:List Value)(T:Addr)(h:Heap)(i:Nat):Prop where
 set:∃o,h.get? S=some o/\o.data=.set es ep t
 it:∃o f,h.get? I=some o/\o.cls=.type "set_iterator"/\o.data=.fields #[f,.int i 0,.ref S,.int es.size 0,.int ep 0]/\SM w S es ep t ord T h i f
section
variable{al:Hc}{A:F7}{N:GI}{aD:EI->EQ->Prop}{r:EQ}{S I T:EZ}{f:Array<|Int×EI}{ep:Nat}{t:HE}{ord:List EI}{i:Nat}
theorem SM.to(x:SM A S f ep t ord T h i w)(k:∀D,h.get? T=j' D->h'.get? T=j' D):SM A S f ep t ord T h' i w:=by induction x with|text d p=>exact .text d p|drawn b l d p c=>exact .drawn b l d (k _ p) c|led a d p c G e=>exact .led a d p c G e
theorem uR(ho:r.heap.get? S=j' D)(hd:D.data=.set f ep t)(hf:t.fits f.size=Do)(hb:ed A=Do)(q:C ((pickOrder (A.params.setOrder S ep) f)[i]?.map λe=>(e.2,a)) r):Ey (EE al A) N (setNext S a i ep) C aD r:=by unfold setNext;refine bnd (λd k=>FV ho hd hf k) ?_;dsimp only;refine bnd (λd k=>m_ k)<|ie hb ?_;simp only[bne_self_eq_false,Fh,if_false];refine s0 ?_;unfold setWalk;refine bnd (λd k=>FV ho hd hf k) ?_;dsimp only;refine bnd (λd k=>m_ k)<|ie hb<|bnd (λd k=>Js k)<|tk<|tk q
set_option backward.match.sparseCases true in
theorem uS(ho:r.heap.get? S=j' D)(hd:D.data=.set f ep t)(hf:t.fits f.size=Do)(hb:ed A=EF)(J:(!t.plain&&decide (f.size>1))=EF)(L:(!t.led&&!f.isEmpty)=EF)(q:C (match f[FL t.place a]?,t.place[FL t.place a]? with|some (_,x),j' a=>j' (x,a+1)|_,_=>none) r):Ey (EE al A) N (setNext S a i ep) C aD r:=by unfold setNext;refine s0<|FV ho hd hf ?_;dsimp only;refine s0<|m_ ?_;refine cP (hb▸E2)<|GW (λh=>aJ (J.symm.trans h) E2) λd=>s0<|GW (λh=>aJ (L.symm.trans h) E2) λd=>tk<|tk q
end
section
variable{al:Hc}{A:F7}{N:GI}{aD:EI->EQ->Prop}{r:EQ}{S I T:EZ}{f:Array<|Int×EI}{ep:Nat}{t:HE}{ord:List EI}{i:Nat}
theorem jS{h:F6}{D:Obj}{fs:Array EI}(ho:h.get? I=j' D)(hc:D.cls=.type "set_iterator")(hd:D.data=.fields fs)(k:Nat)(x:EI):∃o',(h.update I<|HZ (·.setIfInBounds k x)).get? I=j' o'/\o'.cls=.type "set_iterator"/\o'.data=.fields (fs.setIfInBounds k x):=⟨_,FY _ ho<|Nf<|JM hd _,(OG ..).trans hc,JM hd _⟩
theorem pG(st:∃D,h.get? S=j' D/\D.data=.set f ep t)(hI:S≠I)(m:Gs I h h')(it:∃D,h'.get? I=j' D/\D.cls=.type "set_iterator"/\D.data=.fields #[f',.int i 0,.ref S,.int f.size 0,.int ep 0])(y:SM A S f ep t ord T h' i f'):SI A S I f ep t ord T h' i:=by refine aA st λD d p=>a4 it λo' Q b' c'=>⟨⟨D,(m.2 S hI).trans d,p⟩,⟨o',f',Q,b',c',y⟩⟩
theorem DG(M:Tb t f.size)(hf:t.fits f.size=Do)(z:S≠I)(hT:T≠I)(st:SI A S I f ep t ord T r.heap i)(E:ord[i]?=j' x){C:Option EI->EQ->Prop}(q:∀h',SI A S I f ep t ord T h' (i+1)->Gs I r.heap h'->C (j' x) {r with heap:=h'}):Ey (EE al A) N (Ix<|.ref I) C aD r:=by
 obtain⟨⟨Q,u,H⟩,D,w,ho,hc,hd,y⟩:=st;have L:r.TypeIs (.ref I) "set_iterator":=⟨D,ho,hc⟩;dsimp only[Ix];refine s0<|IU<|F' (name:=Et "__next__") L jR<|Fs jR L uO ?_<|uQ _;show Ey _ _ (fieldsOf (.ref I)>>=_) _ _ r;refine bnd (λg k=>Jk ho hd k) ?_;dsimp only;show Ey _ _ (Mg S>>=_) _ _ r;refine s0 ?_;dsimp only[Mg];refine bnd (λg k=>FV u H hf k)<|tk ?_;refine GW λh=>aJ h<|by simp λg=>?_;induction y with|text d p=>refine bnd (λg k=>uR u H hf d k) ?_;rw[p]at E;rw[ET,Fd]at E;refine aA (EY.mp E) λe he s=>?_;clear E;subst s;rw[FM i,FM ep,he];refine bnd (λg k=>GP ho hd (by simp) k)<|a4 (jS ho hc hd 0<|G4 (0:Int)) λo1 g1 c1 d1=>bnd (λg k=>GP g1 d1 (by simp) k)<|tk ⟨_,rfl,tk ?_⟩;refine a4 (jS g1 c1 d1 1<|G4<|(i:Int)+1) λJ g2 c2 K=>?_;have m:=(E5 r.heap I<|HZ (·.setIfInBounds 0<|G4 (0:Int))).trans<|E5 _ I<|HZ (·.setIfInBounds 1<|G4<|(i:Int)+1);exact q _ (pG ⟨Q,u,H⟩ z m ⟨J,g2,c2,by rw[K];simp[G4]⟩<|.text d p) m|drawn b l d p c=>
  refine bnd (λg k=>JX p rfl k) ?_;have n:(ord.map j')[i]?=j' (j' x):=by rw[ET,E];rfl
  rw[<-c,ET]at n;refine aA (EY.mp n) λj hp he=>aA (EY.mp he) λe hq s=>?_;clear E n he;subst s;have hg:(b.map λ(i:Nat)=>G4 i).toArray[i]?=j' (G4 j):=by rw[He,ET,hp];rfl
  rw[FM];dsimp only;rw[hg];show Ey _ _ (setNextDrawn S _ _>>=_) _ _ _;refine s0 ?_;dsimp only[setNextDrawn];refine bnd (λg k=>FV u H hf k) ?_;refine cP (by simp) ?_;rw[FM,hq];refine tk<|bnd (λg k=>GP ho hd (by simp) k)<|tk ⟨_,rfl,tk ?_⟩;refine a4 (jS ho hc hd 1<|.int ((i:Int)+1) 0) λJ g2 c2 K=>?_;have m:=E5 r.heap I<|HZ (·.setIfInBounds 1<|.int ((i:Int)+1) 0);exact q _ (pG ⟨Q,u,H⟩ z m ⟨J,g2,c2,by rw[K];simp⟩<|.drawn b l d ((m.2 T hT).trans p) c) m|led a d p c G e=>
  refine bnd (λg k=>uS u H hf d p c k) ?_;rw[e,ET,Fd]at E;refine aA (EY.mp E) λe1 he s=>?_;clear E;subst s;have hi:i<t.place.size:=by rw[M.size];exact(FG.mp he).1
  have hp:t.place[i]?=j' t.place[i]:=E6 hi;simp only[FM,G,he,hp];refine bnd (λg k=>GP ho hd (by simp) k)<|a4 (jS ho hc hd 0<|G4 ((t.place[i]+1:Nat):Int)) λo1 g1 c1 d1=>bnd (λg k=>GP g1 d1 (by simp) k)<|tk ⟨_,rfl,tk ?_⟩;refine a4 (jS g1 c1 d1 1<|G4<|(i:Int)+1) λJ g2 c2 K=>?_;have m:=(E5 r.heap I<|HZ (·.setIfInBounds 0<|G4 ((t.place[i]+1:Nat):Int))).trans<|E5 _ I<|HZ (·.setIfInBounds 1<|G4<|(i:Int)+1);exact q _ (pG ⟨Q,u,H⟩ z m ⟨J,g2,c2,by rw[K];simp[G4]⟩<|.led _ d p c (uu M.rise hp) e) m
theorem DH(hh:N.handled=kf)(q:∀h',Je I r.heap h'->C none {r with heap:=h'}):Ey (EE al A) N.in1 (do NF<|<-newExc (.type "StopIteration") []:J2 Fin) (λfin s'=>∃v,fin=Fin.done (Flow.ret v)/\Ey (EE al A) N (pure<|j' v) C aD s') (λe s'=>Ey (EE al A) N (do if<-isInstance e<|.type "StopIteration"then pure none else throw e) C aD s') r:=by refine s0 ?_;dsimp only[newExc,newTuple];refine s0<|Fu ?_<|E8 _;refine s0 (m:=La _ _)<|HO (a:=GZ) (by first|rfl|(dsimp only[La];rfl)) ?_;refine Fu ?_ (by show(6:Nat)<=sizeLine+2;rw[Gp];decide);dsimp only[NF];refine s0<|wpAny_handled ?_;rw[show N.in1.handled=none from hh];refine s0<|tk<|wpAny_throw ?_;refine s0<|Jr (T:="StopIteration") (b:=Do) ⟨_,ES _ rfl,rfl⟩ Ng ?_;exact tk<|q _<|((Heap.ExtBut.refl I r.heap).push _).push _
theorem DJ(hh:N.handled=kf)(hf:t.fits f.size=Do)(st:SI A S I f ep t ord T r.heap ord.length)(hn:ord.length=f.size){C:Option EI->EQ->Prop}(q:∀h',Je I r.heap h'->C none {r with heap:=h'}):Ey (EE al A) N (Ix<|.ref I) C aD r:=by
 obtain⟨⟨Q,u,H⟩,D,w,ho,hc,hd,y⟩:=st;have L:r.TypeIs (.ref I) "set_iterator":=⟨D,ho,hc⟩;dsimp only[Ix];refine s0<|IU<|F' (name:=Et "__next__") L jR<|Fs jR L uO ?_<|uQ _;show Ey _ _ (fieldsOf (.ref I)>>=_) _ _ r;refine bnd (λg k=>Jk ho hd k) ?_;dsimp only;show Ey _ _ (Mg S>>=_) _ _ r;refine s0 ?_;dsimp only[Mg];refine bnd (λg k=>FV u H hf k)<|tk ?_;refine GW λh=>aJ h<|by simp λg=>?_;have fin:∀h',Je I r.heap h'->Ey (EE al A) N.in1 (do NF<|<-newExc (.type "StopIteration") []:J2 Fin) (λfin s'=>∃v,fin=Fin.done (Flow.ret v)/\Ey (EE al A) N (pure<|j' v) C aD s') (λe s'=>Ey (EE al A) N (do if<-isInstance e<|.type "StopIteration"then pure none else throw e) C aD s') {r with heap:=h'}:=λh' hb=>DH (I:=I) hh λO az=>q O λp D hn e=>az p D hn<|hb p D hn e
 induction y with|text d p=>
  refine bnd (λg k=>uR u H hf d k) ?_;have he:(pickOrder (A.params.setOrder S ep) f)[ord.length]?=none:=by rw[LV,<-EU,(uM _ f).length_eq,EU,hn];exact EM _
  rw[FM ord.length,FM ep,he];exact bnd (λg k=>GP ho hd (by simp) k)<|fin _ (E5 ..).extBut|drawn b l d p c=>
  refine bnd (λg k=>JX p rfl k) ?_;have hl:b.length=ord.length:=by have:=aY Hk c;simpa using this
  have hg:(b.map λ(i:Nat)=>G4 i).toArray[ord.length]?=none:=by rw[He,ET,Hd<|Hx hl];rfl
  rw[FM];dsimp only;rw[hg];refine bnd (λg k=>GP ho hd (by simp) k)<|a4 (jS ho hc hd 0<|G4 (0:Int)) λo1 g1 c1 d1=>bnd (λg k=>GP g1 d1 (by simp) k)<|fin _ ((E5 r.heap I _).trans<|E5 _ I _).extBut|led a d p c G e=>
  refine bnd (λg k=>uS u H hf d p c k) ?_;have he:f[ord.length]?=none:=by rw[LV,hn];exact EM _
  simp only[FM,G,he];exact bnd (λg k=>GP ho hd (by simp) k)<|fin _ (E5 ..).extBut
end
theorem uT:Slot "set_iterator" "__iter__" "set_iterator.__iter__":=.of (owner:="set_iterator") (n:="__iter__") (by rw[typeLookup_type,Nz];kernel_rfl) (by decide+kernel) (by decide+kernel) (by decide+kernel) (by first|exact .inl<|by decide+kernel|exact .inr<|by decide+kernel)<|by rw[NA];kernel_rfl
theorem DL:entryFor table "set_iterator.__iter__"=j' Builtin.«dict_keyiterator.__iter__»:=Nd (id':="dict_keyiterator.__iter__") (by kernel_rfl) rfl (by decide+kernel)<|by kernel_rfl
theorem DM(d:EI):argsOk "set_iterator.__iter__" ⟨[d],[]⟩:=by unfold argsOk;rw[signature?_of (id:="set_iterator.__iter__") (n:=['_','_','r','e','t','i','_','_']) (o:=['r','o','t','a','r','e','t','i','_','t','e','s']) (by kernel_rfl) uP];kernel_rfl
section
variable{S I T:EZ}{f:Array<|Int×EI}{ep:Nat}{t:HE}{ord:List EI}{i:Nat}
theorem uU(hh:N.handled=kf)(M:Tb t f.size)(hf:t.fits f.size=Do)(hn:ord.length=f.size)(z:S≠I)(hT:T≠I):Walks al A N I [I,S,T] [I] ord.length (λi v=>ord[i]?=j' v) λi h=>SI A S I f ep t ord T h i where
 sub:=λp hb=>by simp at hb;simp[hb]
 frame:=λi h h' st X=>by obtain⟨⟨Q,u,H⟩,D,w,ho,hc,hd,y⟩:=st;exact⟨⟨Q,X S (by simp) _ u,H⟩,D,w,X I (by simp) _ ho,hc,hd,y.to λD e=>X T (by simp) D e⟩
 item:=λi r C aD hi st o=>by refine DG M hf z hT st (EL hi) λh' a m=>o _ h' r.toks (EL hi) a λp D hb e=>m.extBut p D λh=>hb<|by simp[h] e
 done:=λr C aD st o=>DJ hh hf st hn λh' hb=>o h' r.toks λp D hn e=>hb p D λh=>hn<|by simp[h] e
 self:=λd r C d st o=>by obtain⟨_,D,w,ho,hc,_⟩:=st;have L:r.TypeIs (.ref I) "set_iterator":=⟨D,ho,hc⟩;refine Jh L uT<|Fs uT L DL ?_<|DM _;exact tk ⟨_,rfl,"set_iterator",_,L,jR.lookup,o⟩
theorem DN(ho:r.heap.get? S=j' D)(hd:D.data=.set f ep t)(hf:t.fits f.size=Do)(q:C (!ed A&&(!t.plain&&decide (f.size>1))) r):Ey (EE al A) N (setDrawn S) C aD r:=by unfold setDrawn;refine bnd (λp k=>FV ho hd hf k)<|bnd (λp k=>m_ k)<|tk q
theorem DO(M:Tb t f.size)(an:t.led=!ed A)(ho:r.heap.get? S=j' D)(hc:D.cls=.type "set")(hd:D.data=.set f ep t)(hf:t.fits f.size=Do)(ac:f.size<=1000)(q:∀h' dr aO I T ord,S≠I->T≠I->r.heap.objs.size<=I->T=S\/r.heap.objs.size<=T->(∀p D,r.heap.get? p=j' D->h'.get? p=j' D)->SI A S I f ep t ord T h' 0->ord.Perm (f.toList.map (·.2))->I<h'.objs.size->C (.ref I) {r with heap:=h',drawn:=dr,toks:=aO}):Ey (EE al A) N (Ju<|.ref S) C aD r:=by
 have E:r.TypeIs (.ref S) "set":=⟨D,ho,hc⟩;have i:=E_ ho;refine Jh E NB<|Fs NB E DF ?_<|PySem.F.args_set_iter_1 _;dsimp only[Im.«frozenset.__iter__»];refine s0 (m:=Builtin.Frozenset.slot0 _ _)<|tk ?_;refine s0 ?_;dsimp only[Builtin.Frozenset.sizeOf,Mg];refine s0<|bnd (λd k=>FV ho hd hf k)<|tk<|tk ?_;refine bnd (λd k=>DN ho hd hf k) ?_;have fin:∀ae w T ord,ae.gens=r.gens->ae.os=r.os->r.heap.objs.size<=ae.heap.objs.size->T=S\/r.heap.objs.size<=T->T<ae.heap.objs.size->(∀p D,r.heap.get? p=j' D->ae.heap.get? p=j' D)->SM A S f ep t ord T ae.heap 0 w->ord.Perm (f.toList.map (·.2))->Ey (EE al A) N.in1 (setEpoch S>>=λe=>newFields "set_iterator" [w,G4 0,.ref S,G4 f.size,G4 e]>>=λv=>ret v) (λfin s'=>∃v,fin=Fin.done (Flow.ret v)/\∃T' o,s'.TypeIs v T'/\typeLookup (.type T') "__next__"=pure (j' o)/\C v s') aD ae:=λae w T ord e1 e2 e3 aq Z e5 y hp=>by obtain⟨J,g1,d1,t1,o1⟩:=ae;dsimp only at e1 e2 e3 Z e5 y;subst e1;subst e2;refine s0 ?_;dsimp only[setEpoch];refine bnd (λd k=>FV (s:=⟨J,_,d1,t1,_⟩) (e5 _ _ ho) hd hf k)<|tk ?_;refine bnd (λd k=>Fu k)<|tk ⟨_,rfl,"set_iterator",_,⟨_,ES _ rfl,rfl⟩,jR.lookup,?_⟩;refine q _ d1 t1 J.objs.size T ord (EP<|Ew i e3) (EP Z) e3 aq (λp D e=>EV _<|e5 p D e) ?_ hp (by rw[HG];exact Fq _);exact⟨⟨D,EV _<|e5 _ _ ho,hd⟩,_,w,ES _ rfl,rfl,by rfl,y.to λD e=>EV _ e⟩
 cases hb:ed A with|true=>refine GW λh=>aJ h<|by trivial λd=>cb<|fin r _ S _ rfl rfl (EM _) (.inl rfl) i (λd d e=>e) (.text hb rfl)<|(uM _ f).map _|false=>cases hp:!t.plain&&decide (f.size>1)with|false=>refine GW λh=>aJ h<|by trivial λd=>cb<|fin r _ S _ rfl rfl (EM _) (.inl rfl) i (λd d e=>e) (.led 0 hb hp (an.symm▸hb.symm▸rfl) (uv M.rise) rfl)<|J1 _|true=>
   refine GW (λd=>?_) λh=>aJ rfl h;refine s0<|uN f.size (E3 f.size) r _ (by simp) λb G L=>?_;refine s0 ?_;have hl:b.length=f.size:=by rw[L.length_eq];simp
   refine Nh (s:={r with drawn:=G}) ?_ (by simp[hl,Gp];exact ED ‹_› dd);have ad:∀j∈b,∃e,f[j]?=j' e:=λj hp=>⟨_,E6<|by simpa using L.mem_iff.mp hp⟩;refine fin {r with heap:=r.heap.push _,drawn:=G} _ r.heap.objs.size (b.map λj=>(f[j]?.map (·.2)).getD .none) rfl rfl ?_ (.inr<|EM _) ?_ (λd d e=>EV _ e) (.drawn b 0 hb (ES _ rfl) ?_) ?_;.dsimp only;rw[HG];exact GV _
   .dsimp only;rw[HG];exact Fq _
   .rw[Fb];refine FJ λj hp=>ax (ad j hp) λe he=>?_;simp[he]
   .refine(L.map _).trans<|Pc<|OL λa=>?_;rw[ET,ET,Fd (xs:=f)];by_cases c:a<f.size;.rw[GJ c];simp[E6 c]
    .rw[Hd (l:=E3 f.size)<|by simp;exact Gf.mp ‹_›,M8<|Gf.mp ‹_›];rfl
end
section
variable{t:HE}
theorem DP(hT:r.TypeIs (.ref S) "set")(h:C EF r):Ey (EE al A) N (Lz<|.ref S) C aD r:=by unfold Lz;refine bnd (λc k=>I2 hT PySem.F.slot_set_len.lookup k) ?_;generalize b9:("set.__len__":String)=a;wp_delta;rw[show splitId a=j' ("set","__len__")from by subst b9;decide+kernel];subst b9;refine bnd (λc k=>Jr (T:="set") (b:=Do) hT (by rw[NA];kernel_rfl) k) ?_;refine GW (λaj=>aJ aj dd) λc=>?_;refine GW (λc=>?_) λaj=>aJ (by decide+kernel) aj;refine bnd (λc k=>KP hT k)<|tk h
theorem DQ(hh:N.handled=kf)(M:Tb t f.size)(an:t.led=!ed A)(ho:r.heap.get? S=j' D)(hc:D.cls=.type "set")(hd:D.data=.set f ep t)(hf:t.fits f.size=Do)(ac:f.size<=1000)(q:∀h' dr aO Y,(∀p D,r.heap.get? p=j' D->h'.get? p=j' D)->Y.Perm (f.toList.map (·.2))->R Y {r with heap:=h',drawn:=dr,toks:=aO}):Ey (EE al A) N (collect<|.ref S) R aD r:=by
 have i:=E_ ho;have w:f.size<=sizeLine:=Gp▸ED ‹_› dd;dsimp only[collect];refine s0<|wpAny_runValue<|Jd entry_proto_collect' ?_;rw[IA PySem.F.plain_proto_collect _];show Ey _ N.in1 (OD []>>=λm=>again<|.builtin "list.__iadd__" ⟨[m,.ref S],[]⟩) _ _ r;refine s0<|Fu ?_;refine tk ⟨LU MD _,Jd entry_list_iadd' ?_⟩;rw[IA MD _];have hL:(r.heap.push {cls:=.type "list",data:=.seq ([]:List EI).toArray}).get? r.heap.objs.size=j' {cls:=.type "list",data:=.seq #[]}:=ES _ rfl;have Q:(r.heap.push {cls:=.type "list",data:=.seq ([]:List EI).toArray}).objs.size=r.heap.objs.size+1:=HG ..;show Ey _ N.in1 (LB (.ref r.heap.objs.size) (.ref S)<|.ref r.heap.objs.size) _ _ _;have o:=EV {cls:=.type "list",data:=.seq ([]:List EI).toArray} ho;have z:∀p D,r.heap.get? p=j' D->(r.heap.push {cls:=.type "list",data:=.seq ([]:List EI).toArray}).get? p=j' D:=λp D e=>EV _ e;generalize r.heap.push {cls:=.type "list",data:=.seq ([]:List EI).toArray}=J at hL Q o z⊢;dsimp only[LB];refine s0<|KP (T:="set") ⟨D,o,hc⟩ ?_;have e1:Mv (.ref r.heap.objs.size) (.ref S)=false:=by simp[Mv,EW i]
 refine cP (by rw[e1];exact dd) ?_;refine s0<|DO (r:={r with heap:=J}) M an o hc hd hf ac λL dr aO I T ord x1 x2 x3 x4 x5 x6 x7 d=>?_;refine s0<|E4<|DP ⟨D,x5 _ _ o,hc⟩ ?_;have l:ord.length=f.size:=by rw[x7.length_eq,Ex,EU]
 have aa:r.heap.objs.size≠I:=by dsimp only at x3;rw[Q]at x3;exact EP x3
 have hT:T≠r.heap.objs.size:=by
  refine x4.elim (λx4=>?_) λx4=>?_;.exact x4▸EP i
  .dsimp only at x4;rw[Q]at x4;exact EW x4
 have b:r.heap.objs.size∉[I,S,T]:=by simp only[EG,Ez,or_false,not_or];exact⟨aa,EW i,hT.symm⟩
 have ab:∀K,(∀s' n c',(∀p D,r.heap.get? p=j' D->s'.heap.get? p=j' D)->s'.gens=r.gens->s'.drawn=dr->s'.os=r.os->s'.heap.get? r.heap.objs.size=j' {cls:=.type "list",dict:=none,data:=.seq n c',slots:=#[]}->n.toList=ord->K (.ok<|.ret<|.ref r.heap.objs.size) s')->∀h u,SI A S I f ep t ord T h 0->(∀p D,p≠r.heap.objs.size->L.get? p=j' D->h.get? p=j' D)->h.get? r.heap.objs.size=j' {cls:=.type "list",data:=.seq #[] u}->Hl (EE al A) N (.builtin "list.extend.loop" ⟨[.ref r.heap.objs.size,.ref I,.ref r.heap.objs.size],[]⟩) K {r with heap:=h,drawn:=dr,toks:=aO}:=by
  intro K hR h u st X hl;refine codeAny_extend_loopS (uU (N:=N.in1) hh M hf l x1 x2).toS (l▸w) r.heap.objs.size b _ ord.length 0 _ #[] u rfl (E8 _) st hl (ItemsOf.nil _) λs' n c' hm y j=>hR s' n c' (λp D e=>hm.heap p D (λhb=>?_)<|X p D (EP<|E_ e)<|x5 p D<|z p D e) hm.gens hm.drawn hm.os y ?_
  .have:=E_ e;refine(EG.mp hb).elim (λhb=>?_) λhb=>?_;.exact aJ this<|hb▸GN _
   .have hb:=ta.mp hb;dsimp only at x3;rw[Q]at x3;rw[hb]at this;exact aJ x3<|Pd.mpr<|Gn this
  .refine OL λa=>?_;rw[Fd];by_cases c:a<n.size;.rw[E6 c];exact(j.2 a _<|E6 c).symm
   .rw[M8<|Gf.mp c,Hd<|j.1▸Gf.mp c]
 have s:=x5 _ _ hL;refine GW (λd=>?_) λaj=>aJ (by decide+kernel) aj;refine s0<|G9 ?_;refine s0 ?_;show Ey _ _ (updateSeq r.heap.objs.size (·.push .none)>>=λd=>updateSeq r.heap.objs.size (·.pop)) _ _ _;refine s0<|wpAny_updateSeq s rfl ?_;have C:=FY (Ha (·.push GZ)) s rfl;refine wpAny_updateSeq (hz:=by seq_fits) C rfl ?_;have ad:=FY (Ha (·.pop)) C rfl;have G:∀p D,p≠r.heap.objs.size->L.get? p=j' D->((L.update r.heap.objs.size<|Ha (·.push GZ)).update r.heap.objs.size<|Ha (·.pop)).get? p=j' D:=λp D hb e=>(Kf _ _<|HF hb).trans<|(Kf _ _<|HF hb).trans e;refine tk ⟨LU PySem.F.plain_extend_loop _,ab _ (λs' n c' y1 y2 y3 O V Z=>?_) _ _ ((uU (N:=N) (al:=al) hh M hf l x1 x2).frame 0 _ _ x6 λp hb D e=>G p D (λE=>b<|E▸hb) e) G ad⟩;.obtain⟨h',g',H,t',o'⟩:=s';dsimp only at y1 y2 y3 O V Z;subst y2;clear ab;subst y3;subst O;show Ey _ N (load r.heap.objs.size>>=_) _ _ _;refine s0<|wpAny_load V<|tk ?_;exact q h' _ t' n.toList y1<|Z▸x7
end
structure PB(k:SortKind)(a₀:Array PyProof.Rows.Keyed)(st:SortSt):Prop where
 perm:(arrOf st).Perm a₀
 kind:kindOf st=k
 failed:failedOf st=none
 pend:pendingOf st=#[]
section
variable{f:Array JV}
def g0(al:Hc)(A:F7)(N:GI)(r:EQ)(k:SortKind)(f:Array JV):Prop:=∀aD C,∀j∈f.toList,∀q∈f.toList,(∀p,C p r)->Ey (EE al A) N (keyLt' k j.1 q.1) C aD r
theorem PB.size{st:HL}(h:PB k f st):(Kj st).size=f.size:=h.perm.size_eq
theorem PB.setArr{st:HL}(h:PB k f st){z:Array JV}(hp:z.Perm<|Kj st):PB k f<|PyProof.Rows.setArr st z:=⟨hp.trans h.perm,h.kind,h.failed,h.pend⟩
theorem PB.at{st:HL}(h:PB k f st){i:Nat}(hi:i<f.size):∃j,(Kj st)[i]?=j' j/\j∈f.toList:=by have Q:i<(Kj st).size:=h.size▸hi;exact⟨_,getElem?_pos _ i Q,(LY.mp h.perm).mem_iff.mp<|by simp⟩
theorem lx{st:HL}{i a:Nat}{C:Option Bool->HL->Prop}(hL:g0 al A N r k f)(ab:PB k f st)(hi:i<f.size)(hj:a<f.size)(h:∀p,C (j' p) st):G0 (EE al A) N aD r (ltAt' i a) C st:=by refine aA (ab.at hi) λj e1 m1=>?_;refine aA (ab.at hj) λq e2 m2=>?_;rw[ltAt'_eq];refine FQ<|NC ?_;show G0 _ _ _ _ (do let x<-elem' (Kj st) i;let u<-elem' (Kj st) a;lt' x u) C st;rw[elem'_eq,elem'_eq,e1,e2];refine FQ<|GG<|FQ<|GG ?_;rw[lt'_eq];refine FQ<|NC ?_;exact ab.kind▸FQ (wpS_lift<|IU<|hL _ _ j m1 q m2 λp=>⟨rfl,GG<|h p⟩)
theorem uV{st:HL}{d e:Nat}{C:AscSt->HL->Prop}(hL:g0 al A N r k f)(hn:e<=f.size)(b:d<=e)(ha:1<=d)(ab:PB k f st)(h:∀l,d<=l->l<=e->C (none,l) st):G0 (EE al A) N aD r (ascLoop d e) C st:=by
 unfold ascLoop;refine JW (I:=λx c a=>a=st/\c=(none,x)) ?_ ?_ ⟨rfl,rfl⟩;.rintro x c a m j⟨rfl,rfl⟩;dsimp only;refine FQ<|lx hL ab (Ew j hn) (ER (Me _ _)<|Ew j hn) λp=>?_;induction p with|true=>exact GG<|h x m<|Fa j|false=>exact GG ⟨rfl,rfl⟩
 .rintro c a⟨rfl,rfl⟩;exact(Ia b).symm▸h e b (EM _)
theorem uW{st:HL}{l e:Nat}{C:Option Nat->HL->Prop}(hL:g0 al A N r k f)(hn:e<=f.size)(J:1<=l)(s:l<=e)(ab:PB k f st)(h:∀y a,PB k f a->y<=e->C (j' y) a):G0 (EE al A) N aD r (tail3 l e) C st:=by unfold tail3;refine FQ<|M9 ?_;have i:PB k f<|setArr st<|mirror (Kj st) 0 l<|(l-0)/2:=ab.setArr<|M_ _ _ _ _;exact FQ<|uV hL hn s J i λy d hm=>GG<|h y _ i hm
theorem DR{st:HL}{l e:Nat}{C:DescSt->HL->Prop}(hL:g0 al A N r k f)(hn:e<=f.size)(s:l<=e)(J:1<=l)(ab:PB k f st)(h:∀y d a,PB k f a->l<=y->y<=e->C (none,y,d) a):G0 (EE al A) N aD r (descLoop l e) C st:=by
 unfold descLoop;refine JW (I:=λx c a=>∃d,c=(none,x,d)/\PB k f a) ?_ ?_ ⟨0,rfl,ab⟩;.rintro x c a m j⟨d,rfl,i⟩;dsimp only;have l1:=Ew j hn;have l2:x-1<f.size:=ER (Me _ _) l1;refine FQ<|lx hL i l1 l2 λp=>?_;induction p with
  |true=>
   dsimp only;rw[aF<|show Do=Do from rfl];split;.exact FQ<|M9<|GG ⟨0,rfl,i.setArr<|M_ _ _ _ _⟩
   .exact GG ⟨0,rfl,i⟩|false=>dsimp only[Fh,if_false];refine FQ<|lx hL i l2 l1 λp=>?_;induction p with|true=>exact GG<|h x d a i m<|Fa j|false=>exact GG ⟨d+1,rfl,i⟩
 .rintro c a⟨d,rfl,i⟩;exact(Ia s).symm▸h e d a i s (EM _)
theorem uX{st:HL}{l e:Nat}{C:Option Nat->HL->Prop}(hL:g0 al A N r k f)(hn:e<=f.size)(s:l+1<=e)(ab:PB k f st)(h:∀y a,PB k f a->y<=e->C (j' y) a):G0 (EE al A) N aD r (descPart l e) C st:=by
 unfold descPart;refine FQ<|wpS_lift<|G9 ⟨rfl,?_⟩;refine FQ<|DR hL hn s (MR _ _) ab λy d a i J L=>?_;dsimp only;have b:=ED (MR 1 l) J;split;.exact FQ<|M9<|uW hL hn b L (i.setArr<|M_ _ _ _ _) h
 .exact uW hL hn b L i h
theorem DS{st:HL}{e:Nat}{C:Option Nat->HL->Prop}(hL:g0 al A N r k f)(hn:e<=f.size)(J:1<=e)(ab:PB k f st)(h:∀y a,PB k f a->y<=e->C (j' y) a):G0 (EE al A) N aD r (countRun' 0 e) C st:=by
 rw[countRun0_eq];refine FQ<|uV hL hn J (EM 1) ab λl w o=>?_;dsimp only;by_cases s:l=e;.rw[aF<|by exact dI s];exact GG<|h l st ab o
 .rw[aC<|by simpa using s];have ad:l+1<=e:=Ig o s;split;.refine FQ<|lx hL ab (Ew J hn) (ER (Me _ _)<|Ew ad hn) λp=>?_;induction p with|true=>exact GG<|h l st ab o|false=>exact FQ<|M9<|uX hL hn ad (ab.setArr<|M_ _ _ _ _) h
  .exact uX hL hn ad ab h
theorem DT{st:HL}{l ok:Nat}{C:Bool->HL->Prop}(hL:g0 al A N r k f)(hn:l<=f.size)(ab:PB k f st)(h:∀a,PB k f a->C Do a):G0 (EE al A) N aD r (binarySort' 0 l ok) C st:=by
 rw[binarySort'_eq];dsimp only;refine FQ<|wpS_mono (JW (I:=λd c a=>c=(none,())/\PB k f a) (Q:=λc a=>c=(none,())/\PB k f a) ?_ (λd d x=>x) ⟨rfl,ab⟩) ?_
 .rintro x c a E j⟨rfl,i⟩;refine FQ<|wpS_mono (JW (I:=λd c b=>b=a/\∃m o,c=(none,m,o)/\o<=x) (Q:=λc b=>b=a/\∃m o,c=(none,m,o)/\o<=x) ?_ (λd d x=>x) ⟨rfl,0,x,rfl,EM _⟩) ?_
  .rintro u c b _ _⟨rfl,m,o,rfl,O⟩;dsimp only;split;.exact GG ⟨rfl,m,o,rfl,O⟩
   .have hm:(m+o)/2<=x:=Nat.div_le_of_le_mul<|Nat.two_mul x▸Nat.add_le_add (ED (Fa<|Pd.mp ‹_›) O) O;refine FQ<|lx hL i (Ew ((IN x).symm▸j) hn) (IN _▸ER hm (Ew j hn)) λp=>?_;induction p with|true=>exact GG ⟨rfl,m,_,rfl,hm⟩|false=>exact GG ⟨rfl,_,o,rfl,O⟩
  .rintro c b⟨rfl,m,o,rfl,O⟩;show G0 _ _ _ _ (do moveDown' (0+x)<|0+m;pure<|Io (none,())) _ _;rw[moveDown'_eq];exact FQ<|wpS_modify<|GG ⟨rfl,i.setArr<|bubble_perm _ _ _⟩
 .rintro c a⟨rfl,i⟩;exact GG<|h a i
def PD(f:Array JV)(st:HL):Prop:=(Kj st).Perm f/\failedOf st=none/\MS st=#[(0,f.size,0)]
theorem PB.done{st:HL}(ab:PB k f st):PD f<|setPending st<|(MS st).push (0,f.size,0):=⟨ab.perm,ab.failed,by show(MS st).push _=_;exact ab.pend▸rfl⟩
theorem DU{st:HL}{C:Unit->HL->Prop}(hL:g0 al A N r k f)(ab:PB k f st)(L:2<=f.size)(K:f.size<64)(h:∀a,(Kj a).Perm f->failedOf a=none->C () a):G0 (EE al A) N aD r sortRuns' C st:=by
 rw[sortRuns'_eq];refine FQ<|NC ?_;dsimp only;have j:minRun' f.size f.size 0=f.size:=by
  obtain⟨w,hf⟩:∃w,f.size=w+1:=⟨f.size-1,aB 0x3b67052f0a400a0049 rfl L⟩;have:minRun' (w+1) f.size 0=f.size:=by rw[minRun'_succ,aF K];rfl
  rwa[<-hf]at this
 rw[ab.size,j];refine FQ<|wpS_mono (JW (I:=λx c a=>x=0/\c=(none,0)/\PB k f a\/1<=x/\c=(none,f.size)/\PD f a) (Q:=λc a=>c=(none,f.size)/\PD f a) ?_ ?_<|.inl ⟨rfl,rfl,ab⟩) ?_
 .intro x c a _ E s;obtain(⟨rfl,rfl,i⟩|⟨n,rfl,hD⟩):=s
  .dsimp only;rw[aC<|Pd.mpr E];rw[Nat.sub_zero,Nat.min_self,IN];refine FQ<|DS hL (EM _) E i λy l d O=>?_;dsimp only;by_cases ad:y<f.size;.rw[aF ad];refine FQ<|wpS_lift<|G9 ⟨rfl,?_⟩;refine FQ<|DT hL (EM _) d λm e=>?_;rw[aC<|show¬(!Do)=Do by decide];refine FQ<|NC ?_;rw[show(MS m).back?=none by rw[e.pend];rfl];dsimp only;exact FQ<|wpS_modify<|GG<|.inr ⟨EM _,rfl,e.done⟩
   .rw[aC ad];have hm:=JE O<|Gf.mp ad;clear O ad;replace hm:=hm.symm;subst hm;refine FQ<|NC ?_;rw[show(MS l).back?=none by rw[d.pend];rfl];dsimp only;exact FQ<|wpS_modify<|GG<|.inr ⟨EM _,by rw[IN],d.done⟩
  .dsimp only;rw[aF<|EM _];exact GG ⟨rfl,hD⟩
 .intro c a s;obtain(⟨E,_,_⟩|⟨_,hc,hD⟩):=s;.exact absurd (ED L<|E▸IL 0 f.size)<|by decide
  .exact⟨hc,hD⟩
 .rintro c a⟨rfl,hD⟩;dsimp only;refine FQ<|wpS_mono (JW (I:=λp c b=>b=a/\c=(none,())) (Q:=λc b=>b=a/\c=(none,())) ?_ (λp p hh=>hh) ⟨rfl,rfl⟩) ?_;.rintro x c b _ _⟨rfl,rfl⟩;refine FQ<|NC ?_;rw[aF<|by rw[hD.2.2];exact EM 1];exact GG ⟨rfl,rfl⟩
  .rintro c b⟨rfl,rfl⟩;exact GG<|h _ hD.1 hD.2.1
theorem DV{P:Fin->EQ->Prop}(ho:r.heap.get? d=j' (FF "list" Y.toArray l))(K:Y.length<64)(i:∀aD C ae,(∀p D,p≠d->r.heap.get? p=j' D->ae.heap.get? p=j' D)->(∀p,g0 al A N ae (Mi p) (OF Y)->C (Mi p) ae)->Ey (EE al A) N (keyKind' Y.toArray) C aD ae)(h:∀j,j.toList.Perm Y->P (.done<|.ret .none) {r with heap:=NN r.heap d Y j}):Ey (EE al A) N (Im.«list.sort» ⟨[.ref d],[]⟩) P aD r:=by
 rw[list_sort_plain];have ha:d<r.heap.objs.size:=E_ ho;refine s0<|Mw ho rfl ?_;refine s0<|N7 ho rfl ?_;obtain⟨e1,o⟩:∃e1,(r.heap.update d<|Ha λc=>#[]).get? d=j' (FF "list" #[] e1):=⟨_,get?_update_seq ho λc=>#[]⟩;refine s0<|seqEpoch_at o rfl ?_;refine s0<|Nh ?_;refine s0<|N4 ?_;refine E4 ?_;have b:(((r.heap.update d<|Ha λc=>#[]).push<|FF "tuple" Y.toArray 0).push<|FF "list" #[] 0).get? d=j' (FF "list" #[] e1):=(OM _ _ _<|by rw[size_push',O7];exact EP<|Gn ha).trans<|(OM _ _ _<|by rw[O7];exact EP ha).trans o;show Ey (EE al A) N _ P aD {r with heap:=((r.heap.update d<|Ha λc=>#[]).push<|FF "tuple" Y.toArray 0).push<|FF "list" #[] 0};dsimp only;have fin:∀a,(Kj a).Perm (OF Y)->P (.done<|.ret .none) {r with heap:=NN r.heap d Y<|(Kj a).map (·.2)}:=λa hp=>by
  refine h _ ?_;rw[Array.toList_map];have hl:(Kj a).toList.Perm<|Y.zip Y:=by rw[<-pairsOf_toList];exact LY.mp hp
  have:=hl.map (·.2);rwa[List.map_snd_zip<|EM _]at this
 by_cases L:Y.toArray.size<2;.rw[aF L,aF L];refine s0<|tk ?_;rw[StateT.run_pure];refine s0<|tk ?_;dsimp only;refine s0<|seqEpoch_at b rfl ?_;refine s0<|N7 b rfl ?_ (hsz2:=by rw[Lk];show(OF Y).size<=_;rw[Mx,Gp];exact ED (Fa ‹_›)<|by decide);simp only[bne_self_eq_false,Fh,if_false];exact tk<|fin (SortSt.mk' general' (Y.toArray.zip Y.toArray) #[] 7 none)<|Pe _
 .rw[aC L,aC L];refine s0<|i _ _ _ (λp D hb e=>EV _<|EV _<|(Kf _ _<|HF hb).trans e) λp hL=>?_;refine s0<|EK (DU hL (st:=SortSt.mk' (Mi p) (Y.toArray.zip Y.toArray) #[] 7 none) (C:=λc a=>(Kj a).Perm (OF Y)/\failedOf a=none) ⟨Pe _,rfl,rfl,rfl⟩ (by rw[Mx];exact Gf.mp L) (by rw[Mx];exact K) λa aa S=>⟨aa,S⟩) ?_ λc c e=>e;rintro⟨⟨⟩,a⟩s'⟨rfl,hp,hf⟩;dsimp only;refine s0<|seqEpoch_at b rfl ?_;refine s0<|N7 b rfl ?_ (hsz2:=by refine ED (Hx<|(Lk ..).trans<|hp.size_eq.trans<|Mx _) ?_;exact Gp▸ED (Fa ‹_›) (by decide));rw[hf];simp only[bne_self_eq_false,Fh,if_false];exact tk<|fin a hp
end
def hY(h:F6)(v:EI):Prop:=∃p x t is l,v=.ref p/\h.get? p=j' (FF "tuple" (.str x t::is).toArray l)/\∀aj∈is,∃i t,aj=.int i t
section
variable{al:Hc}{A:F7}{N:GI}{aD:EI->EQ->Prop}{r:EQ}
theorem DW(h:∀c,C c r):Ey (EE al A) N (oneLt' k (.int d t)<|.int p aj) C aD r:=by induction k with|true=>exact oneLt_int<|h _|false=>rw[oneLt'_eq];dsimp only[Fh,if_false];refine s0<|Na (typeIs_int r d t) (typeIs_int r p aj) slot_int_lt<|call_int_lt ⟨dd,?_⟩;exact Gx<|h _
theorem DY(h:∀c,C c r):Ey (EE al A) N (oneLt' k (.str d t)<|.str p aj) C aD r:=by induction k with|true=>exact oneLt_str<|h _|false=>rw[oneLt'_eq];dsimp only[Fh,if_false];refine s0<|Na (typeIs_str r d t) (typeIs_str r p aj) slot_str_lt<|call_str_lt ⟨dd,?_⟩;exact Gx<|h _
theorem DZ(k:Bool)(x u:EI):keyLt' (Mi k) x u=do
  let z<-Kg x;let ys<-Kg u
  for((j,q),i)in(z.toList.zip ys.toList).zipIdx do if !(<-eqBool j q)then return<-oneLt' (k&&i==0) j q
  return z.size<ys.size:=rfl
theorem D0(E:hY r.heap x)(hy:hY r.heap u)(h:∀c,C c r):Ey (EE al A) N (keyLt' (Mi k) x u) C aD r:=by
 refine g1 E λp x t is s=>a4 s λl z2 g hi=>?_;clear E;replace z2:=z2.symm;subst z2;refine g1 hy λae x2 t2 b s=>a4 s λn2 z2 g2 a=>?_;clear hy;replace z2:=z2.symm;subst z2;rw[DZ];refine bnd (λG k=>Mw g rfl k)<|bnd (λG k=>Mw g2 rfl k)<|s0<|Jq _ (λw o s'=>o.1=kf/\s'=r/\∀e∈w,(∃d t p aj,e.1=(.str d t,.str p aj))\/∃d t p aj,e.1=(.int d t,.int p aj)) _ ?_ ?_ _ _ ⟨rfl,rfl,?_⟩
 .intro s w o s' z2;refine aZ z2 λO z3 az=>?_;clear z2;rcases s with⟨⟨j,q⟩,i⟩;subst z3;have done:(none:Option Bool)=none/\s'=s'/\∀e∈w,_:=⟨rfl,rfl,λe he=>az e<|Ev _ he⟩;rcases az _ Eu with⟨d,t,p,aj,e⟩|⟨d,t,p,aj,e⟩<;>cases e
  .refine bnd (λG k=>wpAny_eqBool_str k) ?_;split;.exact s0<|DY λc=>tk<|tk<|h c
   .exact tk done
  .refine bnd (λG k=>wpAny_eqBool_int k) ?_;split;.exact s0<|DW λc=>tk<|tk<|h c
   .exact tk done
 .intro s s' z2;refine aZ z2 λO z3 G=>?_;clear z2;rcases s with⟨r1,r2⟩;replace z3:=z3.symm;subst z3;simp only at O;replace O:=O.symm;subst O;exact tk<|h _
 .intro s he;rcases s with⟨⟨j,q⟩,i⟩;have hm:=LQ he;dsimp only at hm⊢;rw[Hf,EG]at hm;rcases hm with e|hm;.clear he;cases e;exact .inl ⟨_,_,_,_,rfl⟩
  .refine aN (JD hm) λJ L=>cL (hi j J) λd t s=>?_;clear J;replace s:=s.symm;subst s;refine cL (a q L) λp aj s=>?_;clear L he hm;replace s:=s.symm;subst s;exact .inr ⟨_,_,_,_,rfl⟩
theorem D1(hv:∀v∈Y,hY r.heap v):g0 al A N r (Mi k)<|OF Y:=λaD C j hp q hq h=>by rw[pairsOf_toList]at hp hq;exact D0 (hv _ (mem_zip_self hp).2) (hv _ (mem_zip_self hq).2) h
theorem D2(hv:hY r.heap v)(h:∀x t,C (j'<|.str x t) r):Ey (EE al A) N (firstOfTuple' v) C aD r:=by refine g1 hv λp x t is s=>a4 s λl z2 g d=>?_;clear hv;clear s;subst z2;show Ey _ _ do{if(<-typeOf<|.ref p)!=.type "tuple"then{return none};return(<-Kg<|.ref p)[0]?} C aD r;refine bnd (λd k=>KP (T:="tuple") ⟨_,g,rfl⟩ k)<|GW (λaj=>aJ aj dd) λd=>bnd (λd k=>Mw g rfl k)<|tk<|h x t
theorem D3:∀{Y:List EI}{C:List (Option EI)->EQ->Prop},(∀v∈Y,hY r.heap v)->(∀fs,(∀w∈fs,∃x t,w=j' (.str x t))->C fs r)->Ey (EE al A) N (Y.mapM firstOfTuple') C aD r:=by intro v1;induction v1 with|nil=>intro C g h;rw[List.mapM_nil];exact tk<|h [] λga Q=>(Ez Q).elim|cons v Y ih=>
  intro C hv h;rw[List.mapM_cons];refine s0<|D2 (hv v Eu) λx t=>?_;refine s0<|ih (λaj hu=>hv aj<|Ev _ hu) λfs hf=>tk<|h _ λw hm=>?_;rcases EG.mp hm with rfl|hm;.exact h1 x t rfl
  .exact hf w hm
theorem D4:∀{Y:List EI},(∀v∈Y,∃x t,v=.str x t)->Y.mapM typeOf=pure (Y.map λd=>NU "str"):=by intro v1;induction v1 with|nil=>intro g;rfl|cons v Y ih=>intro h;refine cL (h v Eu) λx t s=>?_;subst s;rw[List.mapM_cons,ih λaj hu=>h aj<|Ev _ hu];show(pure (NU "str")>>=λp=>pure _>>=λf=>pure<|p::f)=_;rfl
theorem D5{Y:List EI}{C:SortKind->EQ->Prop}(hv:∀v∈Y,hY r.heap v)(h:∀k,C (Mi k) r):Ey (EE al A) N (keyKind' Y.toArray) C aD r:=by
 rw[keyKind'_eq,ON];rw[map_eq_pure_bind];refine s0<|s0<|D3 hv λfs hf=>tk ?_;refine ie (by rw[OT,FE];intro w hm;refine cL (hf w hm) λx t s=>?_;clear hm;subst s;rfl) ?_;refine bnd (λd k=>G9 k)<|s0 ?_;rw[oneTypeOnly'_eq,show Array.filterMap id fs.toArray=(fs.filterMap id).toArray from List.filterMap_toArray' rfl,ON,D4 (Y:=fs.filterMap id)]
 .rw[map_pure];refine cb ?_;split;.split<;>exact tk<|tk<|h _
  .exact tk<|tk<|h _
 .intro v hm;refine aA (JS.mp hm) λw f J=>cL (hf w f) λx t s=>?_;clear f;subst s;obtain rfl:=EA J;exact h1 x t rfl
end
def fI(h:F6)(Z:EZ->Prop):Heap:={h with objs:=h.objs.mapIdx λi D=>@ite _ (Z i) (F_ _) D {D with data:=.freed}}
theorem i8:(fI h Z).get? d=j' D↔Z d/\h.get? d=j' D:=by unfold Heap.get? fI;dsimp only;rw[Array.getElem?_mapIdx];cases h.objs[d]? with|none=>exact⟨λe=>aP e,λe=>aP e.2⟩|some x=>
  rw[I5];by_cases M:Z d;.exact aF M▸⟨λe=>⟨M,e⟩,λe=>e.2⟩
  .exact aC M▸⟨λe=>aP e,λe=>aJ e.1 M⟩
section
variable{t:HE}
theorem D6{h h':F6}{Z Z':EZ->Prop}{Y:List EI}{is:List Int}(o:Reps A h Z Y<|is.map V.int):Reps A h' Z' Y<|is.map V.int:=ko (im o<|rQ is).1
theorem D7{h:F6}{Z:EZ->Prop}{Y:List EI}{is:List Int}(o:Reps A h Z Y<|is.map V.int):∀aj∈Y,∃i t,aj=.int i t:=by have I:=(im o<|rQ is).1;induction I with|nil=>exactλd hu=>(Ez hu).elim|cons i t _ ih=>exactλaj hu=>(EG.mp hu).elim (λe=>⟨i,t,e⟩)<|ih (ko ‹_›) aj
theorem D8(x:dH al A (fI h Z) k e):Rep A h Z e.2 k:=by refine b5 x λp e1 s d z2=>aN s λo d=>cL z2 λu is z3=>?_;clear x;subst z3;rw[e1];refine dJ o.inv λb' Y l M g q e=>cM q.inv λv f r1 r2 ab=>ax r1.inv λt ev=>?_;clear r1 q;subst ab ev;rw[e];exact .tup b' _ l _ (i8.mp g).1 (i8.mp g).2<|.cons (.str _ _)<|D6 r2
theorem D9(x:dH al A h k e)(X:∀p D,h.get? p=j' D->h'.get? p=j' D):hY h' e.2:=by refine b5 x λp e1 s c z2=>aN s λo c=>cL z2 λu is z3=>?_;clear x;subst z3;rw[e1];refine dJ o.inv λb' Y l M g q e=>cM q.inv λv f r1 r2 ab=>ax r1.inv λt ev=>?_;clear r1 q;subst ab ev;exact⟨b',_,_,_,l,e,X _ _ g,D7 r2⟩
theorem uY(hh:N.handled=kf)(M:Tb t f.size)(an:t.led=!ed A)(ho:r.heap.get? S=j' D)(hc:D.cls=.type "set")(hd:D.data=.set f ep t)(hf:t.fits f.size=Do)(ac:f.size<64)(h:∀(h':F6)(dr:Drawn)(aO:Nat)(Y:List EI),(∀p D,r.heap.get? p=j' D->h'.get? p=j' D)->Y.Perm (f.toList.map (·.2))->∀(A':GI)(E':EI->EQ->Prop)(P:Fin->EQ->Prop),(∀s',R (.ref h'.objs.size) s'->P (.done<|.ret .none) s')->Ey (EE al A) A' (Im.«list.sort» ⟨[.ref h'.objs.size],[]⟩) P E' {r with heap:=h'.push<|FF "list" Y.toArray 0,drawn:=dr,toks:=aO}):Ey (EE al A) N (Hg (.builtin "sorted") [.ref S]) R aD r:=by
 refine Mb kind_sorted plain_sorted entry_sorted (args_sorted1 _) ?_;dsimp only[Im.«sorted»];refine s0 (m:=checkCount "sorted" 1 1 _)<|tk ?_;refine s0<|DQ (N:=N.in1) hh M an ho hc hd hf (aB 0x769f4281510140 rfl ac) λh' dr aO Y X hp=>?_;have hl:Y.length=f.size:=by rw[hp.length_eq,Ex,EU]
 refine s0<|N4 ?_<|hl▸Gp▸aB 0x7690000002ac1510140 rfl ac;refine s0<|E4<|Fs slot_list_sort ⟨_,ES _ rfl,rfl⟩ entry_list_sort ?_<|args_list_sort _;exact h h' dr aO Y X hp _ _ _ λs' hR=>⟨_,rfl,tk ⟨_,rfl,hR⟩⟩
end
section
variable{aO:Nat}{dr:Drawn}
theorem uZ(I:Inv n r.heap Z H)(X:∀p D,r.heap.get? p=j' D->h'.get? p=j' D)(ht:r.heap.get? t=kf)(ho:h'.get? t=j' (FF "list" Y.toArray l))(o:Reps n.w r.heap Z Y z)(q:C (.lst z) H):Res n (RV n) r Z H C (.ref t) {r with heap:=h',drawn:=dr,toks:=aO}:=by obtain⟨Z',H',x,P,I',r',q'⟩:=jh (C:=C) (aO:=aO) EF I X ht ho o q;exact⟨Z',H',x,⟨P.gens,P.os,P.keep,P.b0,P.bz,P.bl,P.alive⟩,I',r',q'⟩
theorem u0{h0 J:F6}{Y:List EI}{j:Array EI}(X:∀p D,h0.get? p=j' D->J.get? p=j' D):(∀p D,h0.get? p=j' D->(NN (J.push<|FF "list" Y.toArray 0) J.objs.size Y j).get? p=j' D)/\h0.get? J.objs.size=.none:=by
 refine⟨λp D e=>?_,?_⟩;.have J:=X p D e;have ad:=E_ J;rw[sortedHeap_old (EP ad)<|by rw[HG];exact Gn ad];exact bR _ _ J
 .cases e:h0.get? J.objs.size with|none=>rfl|some D=>exact aJ (E_<|X _ _ e)<|GN _
end
theorem u1(z:List α):(λ_:α=>False)=λk=>k∈z.take 0:=funext λd=>propext ⟨HQ,λh=>(Ez h).elim⟩
theorem u2{α:Type}{z:List α}{i:Nat}{x:α}(h:z[i]?=j' x):λk=>k∈z.take i\/k=x=λk=>k∈z.take (i+1):=funext λk=>propext<|by rw[OJ,h,E1,Option.toList_some,ta]
section
variable{n:a_}
theorem D_{is:List Int}(O:bQ G N)(I:Inv n r.heap Z H)(g:r.heap.get? m=j' (FF "list" Y.toArray l))(hI:Np Y is)(K:is.length<64)(q:∀js:List Int,js.Pairwise (·<·)->(∀a,a∈js↔a∈is)->C (.lst<|js.map V.int) H):Ey (EE n.prog n.w) N (Hg (.type "set") [.ref m]) (λv ae=>Ey (EE n.prog n.w) N (Hg (.builtin "sorted") [v]) (Res n (RV n) r Z H C) aQ ae) aQ r:=by
 have aw:Y.length=is.length:=Pf hI;have ar:r.heap.get? r.heap.objs.size=.none:=e0 r;refine uL (items:=Y.toArray) O.2.2 ⟨_,g,rfl,l,rfl⟩ (λi h=>∃D ep t f,IS n.prog n.w h r.heap.objs.size (λk=>k∈is.take i) (!ed n.w) D ep t f/\f.size<=i/\∀p D,r.heap.get? p=j' D->h.get? p=j' D) (λh' e k=>⟨_,_,_,_,u1 is▸DB e,E8 _,k⟩) (λi h h' M k=>jW M λD ep t f an J L=>⟨D,ep,t,f,{an with ho:=k _ _ (EP<|Fq _) an.ho},J,λp D e=>k p D (EP<|Gn<|E_ e)<|L p D e⟩) ?_ ?_
 .intro A' i v ae aD y hu hi s k;refine jW s λD ep t f an J L=>?_;have Q:i<Y.length:=Fk▸(FG.mp hi).1;refine ax (IntsAre.int_at hI i v<|by simpa using hi) λaj s=>?_;clear hi;subst s;have hg:is[i]?=j' (is.getD i 0):=by rw[E9,EL<|aw▸Q];rfl
  refine Dz an (cy 0x77bded46450aa11d062b003510140 rfl K aw J Q) λo h' af o' ad t' R k1 A k3 k4=>k o h' af k1 A ⟨o',ad,t',R,u2 hg▸k3,ED k4<|GF J,λp D e=>(A.2 p λhb=>?_).trans<|L p D e⟩;rw[hb,ar]at e;exact aP e
 .intro h' aO s _;refine jW s λD ep t f an J L=>?_;have ac:f.size<64:=ER J<|Fk▸aw▸K;have ay:Y.toArray.size=is.length:=Fk.trans aw;rw[ay,Kn]at an;refine uY (r:={r with heap:=h',toks:=aO}) O.2.2 an.tb an.led an.ho an.ex.1 an.hd an.ij ac λJ dr al ws k1 A A' E' P hP=>?_;have hl:ws.length=f.size:=by rw[A.length_eq,Ex,EU]
  have az:∀v∈ws,∃l t,v=.int l t:=λv hv=>by refine aA (EO.mp<|A.mem_iff.mp hv) λe he s=>?_;clear hv;subst s;refine aN (an.el e he) λs c=>aA s λk X c=>ax (Iz X) λaj e=>h1 _ aj e
  refine list_sort_tree (ES _ rfl) (intsAre_map ws az) (hl▸ac) λj js aa S w=>hP _ ?_;refine ax (N5 (h:=J.push<|FF "list" ws.toArray 0) (out:=j)<|ES _ rfl) λe he=>?_;refine aN (u0 (Y:=ws) (j:=j) λp D e=>k1 p D<|L p D e) λk3 k4=>uZ (aO:=al) (l:=e) I k3 k4 (Y:=j.toList) (z:=js.map V.int) he (ko aa)<|q js ?_ ?_
  .have hp:js.Perm<|f.toList.map λe=>numOf e.2:=by have:=A.map numOf;rw[Fb]at this;exact S.trans this
   have hn:(f.toList.map λe=>numOf e.2).Nodup:=by refine HY.mpr<|an.one.imp_of_mem λ{e e'}he ao hd E=>?_;refine aN (an.el e he) λs c=>aA s λk X c=>aN (an.el e' ao) λs c=>aA s λk' am c=>ax (Iz X) λaj ab=>ax (Iz am) λd b=>?_;rw[ab,b]at E;have E:k=k':=E;exact hd k X<|E▸am
   exact(w.and<|hp.nodup_iff.mpr hn).imp λh=>KX.mpr h
  .intro a;rw[S.mem_iff,an.mem a,EO];constructor;.intro s;refine aA s λv hv z2=>?_;clear s;subst z2;refine aA (EO.mp<|A.mem_iff.mp hv) λe he s=>?_;subst s;refine cL (az _ hv) λl aj ab=>bm e he<|ab▸intKind_is _ _ _ _
   .intro s;refine aA s λe he X=>?_;refine ax (Iz X) λaj ab=>bm e.2 (A.mem_iff.mpr<|EO.mpr ⟨e,he,rfl⟩)<|ab▸rfl
def KR(n:a_)(h:F6)(v:EI)(k:V):Prop:=dH n.prog n.w h k (a8 n.w k,v)
theorem u3(x:KR n h v k)(u:KR n h v k'):k=k':=by refine a4 x λp e x d=>a4 u λb' e' u d=>?_;have e:v=.ref p:=e;rw[e]at e';injection e' with e';subst e';exact(aO n.prog n.w).inj x u
theorem pH(x:dH n.prog n.w h k e):KR n h e.2 k:=by refine b5 x λp e1 x d w=>ee p e1 x rfl w
theorem pI(x:∃k,dH n.prog n.w h k e)(u:KR n h e.2 k):dH n.prog n.w h k e:=by refine ax x λk' x=>u3 u (pH x)▸x
theorem D':∀m,(∀v∈m,∃k,KR n (fI h Z) v k)->(m.Pairwise λv i=>∀k,KR n (fI h Z) v k->¬KR n (fI h Z) i k)->∃ks,Reps n.w h Z m ks/\ks.Nodup/\∀k,k∈ks↔∃v∈m,KR n (fI h Z) v k:=by intro v1;induction v1 with|nil=>intro g g1;exact⟨[],.nil,.nil,λk=>⟨λh=>(Ez h).elim,λh=>ax h λ_ h=>(Ez h.1).elim⟩⟩|cons v m ih=>
  intro hv hp;refine aN (If.mp hp) λd p=>a4 (ih (λaj hu=>hv aj<|Ev _ hu) p) λks J L b=>ax (hv v Eu) λk X=>gb (k::ks) (.cons (D8 X) J) (FH.mpr ⟨λhm=>?_,L⟩) λk'=>?_;.refine aA ((b k).mp hm) λaj hu a=>d aj hu k X a
  .rw[EG,b];constructor
   .intro s;obtain(rfl|⟨aj,hu,a⟩):=s;.exact bm v Eu X
    .exact bm aj (Ev _ hu) a
   .intro s;refine aA s λaj hu a=>?_;rcases EG.mp hu with rfl|hu;.exact .inl<|u3 a X
    .exact .inr ⟨aj,hu,a⟩
theorem Ea{z:List V}(O:bQ G N)(I:Inv n r.heap Z H)(g:r.heap.get? m=j' (FF "list" Y.toArray l))(hR:Reps n.w r.heap Z Y z)(K:z.length<64)(E:∀x∈z,∃(r:List Nat)(is:List Int),(∀c∈r,c<128)/\x=.tup (.str r::is.map V.int))(q:∀ys:List V,ys.Nodup->(∀u,u∈ys↔u∈z)->C (.lst ys) H):Ey (EE n.prog n.w) N (Hg (.type "set") [.ref m]) (λv ae=>Ey (EE n.prog n.w) N (Hg (.builtin "sorted") [v]) (Res n (RV n) r Z H C) aQ ae) aQ r:=by
 have aw:Y.length=z.length:=hR.length;have ar:r.heap.get? r.heap.objs.size=.none:=e0 r;have am:(fI r.heap Z).get? r.heap.objs.size=.none:=by cases e:(fI r.heap Z).get? r.heap.objs.size with|none=>rfl|some D=>rw[(i8.mp e).2]at ar;exact aP ar.symm
 have hu:N.units+100<cLine:=O.u;refine uL (items:=Y.toArray) O.2.2 ⟨_,g,rfl,l,rfl⟩ (λi h=>∃D ep t f,TS n.prog n.w (fI r.heap Z) h r.heap.objs.size (λk=>k∈z.take i) (!ed n.w) D ep t f/\f.size<=i/\∀p D,r.heap.get? p=j' D->h.get? p=j' D) (λh' e k=>⟨_,_,_,_,u1 z▸DA e (λp D e=>k p D (i8.mp e).2) am,E8 _,k⟩) (λi h h'⟨D,ep,t,f,an,J,L⟩k=>have ab:∀p D,r.heap.get? p=j' D->h'.get? p=j' D:=λp D e=>k p D (EP<|Gn<|E_ e)<|L p D e
   ⟨D,ep,t,f,{an with ho:=k _ _ (EP<|Fq _) an.ho,base:=λp D e=>ab p D (i8.mp e).2},J,ab⟩) ?_ ?_
 .intro A' i v ae aD y ap hi s k;refine jW s λD ep t f an J L=>?_;have Q:i<Y.length:=Fk▸(FG.mp hi).1;have hg:z[i]?=j' z[i]:=EL<|aw▸Q;refine aA (hR.get hg) λaj b o=>?_;rw[He,b]at hi;cases hi;refine bn (E _<|IM<|aw▸Q) λu is hy ex=>?_;have as:gF z[i]:=by
   rw[ex];refine⟨⟨_,rfl⟩,.tup 5 _ λx E=>?_⟩;rcases EG.mp E with rfl|E;.exact .str _ _ hy
   .refine aA (EO.mp E) λa w s=>?_;subst s;exact .int _ _
  have r2:Rep n.w (fI r.heap Z) (λw=>True) v z[i]:=o.mono (λw w=>trivial) λd D M e=>i8.mpr ⟨M,e⟩;have hb:∃p,v=.ref p:=by rw[ex]at o;clear b r2;cases o;exact⟨_,rfl⟩
  refine ax hb λp s=>?_;clear hb;clear b o;subst s;refine Dy (aT 0x1ded42ea2454729201542e19140 rfl hu ap) an (cy 0x77bded43f50aa11d062b003510140 rfl K aw J Q) (k0:=z[i]) ⟨r2,as⟩ ⟨u,is,ex⟩ λo h' af o' ad t' R k1 A k3 k4=>k o h' af k1 A ⟨o',ad,t',R,u2 hg▸k3,ED k4<|GF J,λp D e=>(A.2 p λhb=>?_).trans<|L p D e⟩;rw[hb,ar]at e;exact aP e
 .intro h' aO s _;refine jW s λD ep t f an J L=>?_;have ac:f.size<64:=ER J<|Fk▸aw▸K;have ay:Y.toArray.size=z.length:=by rw[Fk,aw]
  rw[ay,Kn]at an;have aa:t.fits f.size=true:=lv an.tb (by have:=an.room;have:=an.fy;exact aE 0x1da041568d2169520 rfl ‹_›);refine uY (r:={r with heap:=h',toks:=aO}) O.2.2 an.tb an.led an.ho an.ex.1 an.hd aa ac λJ dr al ws k1 A A' E' P hP=>?_;have hl:ws.length=f.size:=by rw[A.length_eq,Ex,EU]
  have az:∀v∈ws,∃e k,e∈f.toList/\e.2=v/\dH n.prog n.w (fI r.heap Z) k e:=λv hv=>by refine aA (EO.mp<|A.mem_iff.mp hv) λe he s=>?_;clear hv;subst s;refine ax (an.el e he) λk X=>dZ e k he rfl X
  have hD:∀p D,(fI r.heap Z).get? p=j' D->J.get? p=j' D:=λp D e=>k1 p D<|L p D (i8.mp e).2;refine DV (ES _ rfl) (hl▸ac) (λS Q2 s2 kk X=>?_) λj hp=>hP _ ?_
  .have fl:∀v∈ws,hY s2.heap v:=λv hv=>by refine cM (az v hv) λe k w s X=>?_;clear hv;subst s;exact D9 X λp D e=>kk p D (EP<|E_<|hD p D e)<|EV _<|hD p D e
   exact D5 fl λp=>X p<|D1 fl
  refine ax (N5 (h:=J.push<|FF "list" ws.toArray 0) (out:=j)<|ES _ rfl) λe he=>?_;refine aN (u0 (Y:=ws) (j:=j) λp D e=>k1 p D<|L p D e) λk3 k4=>?_;have pm:j.toList.Perm<|f.toList.map (·.2):=hp.trans A;refine a4 (D' (n:=n) (h:=r.heap) (Z:=Z) j.toList (λv hv=>by refine aA (EO.mp<|pm.mem_iff.mp hv) λe he s=>?_;clear hv;subst s;refine ax (an.el e he) λk X=>⟨k,pH X⟩)<|(pm.pairwise_iff λ{x u}h k J L=>h k L J).mpr<|HY.mpr<|an.one.imp_of_mem λ{e e'}he ao hd k J L=>hd k (pI (an.el e he) J)<|pI (an.el e' ao) L) λys y1 y2 y3=>?_;refine uZ (aO:=al) (l:=e) I k3 k4 (Y:=j.toList) (z:=ys) he y1<|q ys y2 λu=>?_;rw[y3,an.mem u];constructor;.intro s;refine aA s λv hv X=>?_;refine aA (EO.mp<|pm.mem_iff.mp hv) λe he s=>?_;clear hv;subst s;exact bm e he<|pI (an.el e he) X
  .intro s;refine aA s λe he X=>?_;exact bm e.2 (pm.mem_iff.mpr<|EO.mpr ⟨e,he,rfl⟩)<|pH X
theorem Eb(n:a_):l7 n:=by intro G N r Z H C d x O I o h;unfold ob at h;cases E:bP H x with|none=>rw[E]at h;exact h.elim|some z=>
  rw[E]at h;refine aN (hI E) λE ht=>e9 (fl I o E) λt Y l c s g q hc=>?_;clear o;subst s;have e:c=false:=by
   induction c;.rfl
   .refine ax (hc.mp rfl) λys e=>aJ e<|ht ys
  clear hc;subst e;rcases h with⟨K,⟨is,hi,h⟩|⟨J,L⟩⟩;.refine aN (im q hi) λJ L=>D_ O I g J (by rw[L,Ex]at K;exact K) h
  .exact Ea O I g q K J L
end
theorem Ec:(gO h).In h:=by
 intro d D e;have hm:(d,D)∈gO h:=by
  have:∀(m:KN),m.lookup d=j' D->(d,D)∈m:=by intro m;induction m with|nil=>exactλe=>aP e|cons j o ih=>intro e;obtain⟨p,x⟩:=j;rw[Fw]at e;cases hb:d==p with|true=>rw[hb]at e;obtain rfl:=EA e;exact eq_of_beq hb▸Eu|false=>rw[hb]at e;exact Ev _<|ih e
  exact this _ e
 refine aA (JS.mp hm) λp c hb=>?_;refine aA (EY.mp hb) λx E e=>?_;clear c hb;cases e;exact E
def Ed(h:F6):Prop:=∃K,K.In h/\iC K=Do/\iD K=λd d d d=>Do
theorem Ee(hb:∀A,(fencedOpening MO j A Q).map (λr=>(r.heap,r.gens,r.drawn,r.toks))=j' (Hi A.params,Array.mk [],boot_drawn,boot_toks))(st:∀P,((Hi P).isNs HN,(Hi P).objs.size,(Hi P).nsMap HN "__annotations__")=(Do,a,f))(m:∀A os,∃S,kz j A a f Q (S0 A os) (topStub j)=j' S/\(staticsOk (Iq j.main.body) (Hi A.params) S.abs.heap&&namesBound j S.abs.heap&&gensDone S.abs&&laidKept (Hi A.params) S.abs.heap)=Do/\openSeen q e (Iq j.main.body) xt Do S.abs=openGood q e/\i S.abs=v):LeftO j q e xt i (λd=>v) Q:=λA=>by refine aA (EY.mp<|hb A) λr hs hv=>?_;obtain⟨h,g,G,k,os⟩:=r;simp only[LK]at hv;refine bM hv λs z2 z3 z4=>?_;clear hv;subst s;subst z2;subst z3;subst z4;refine b5 (m A os) λS O e1 e2 e3=>?_;have l:=zm O;rw[zn]at l;have K:=st A.params;simp only[LK]at K;refine aZ K λJ L b=>?_;unfold openEnds;rw[hs,O8];unfold topFrom;dsimp only;rw[J,L,b,l];simp only[e1,O8];show j' (openSeen q e (Iq j.main.body) xt Do S.abs,i S.abs)=_;rw[e2,e3]
theorem Ef(A:F7)(os:Mh):∃S,kz fV A 11 (j'<|.ref 6) 4100 (S0 A os) (topStub fV)=j' S/\(staticsOk (Iq fV.main.body) (Hi A.params) S.abs.heap&&namesBound fV S.abs.heap&&gensDone S.abs&&laidKept (Hi A.params) S.abs.heap)=Do/\openSeen qv ju (Iq fV.main.body) xt Do S.abs=openGood qv ju/\(iC<|gO S.abs.heap,iD<|gO S.abs.heap)=(Do,λd d d d=>Do):=by refine aA (EY.mp<|zr A os) λS J e1=>?_;refine aA (EY.mp<|zs A os) λD L e2=>?_;refine aA (EY.mp<|zt A os) λS3 b e3=>?_;rw[J]at L b;obtain rfl:=EA L;obtain rfl:=EA b;simp only[LK]at e1;rw[<-Fast.te4187177175401517315]at e1;exact⟨S,J,e1.1,e1.2,Prod.ext e2 e3⟩
theorem Eg:LeftO fV qv ju xt (λr=>(iC<|gO r.heap,iD<|gO r.heap)) (λd=>(Do,λd d d d=>Do)) 4100:=Ee (boot_open (by kernel_rfl) (by decide+kernel) λd=>rfl) zp Ef
theorem Eh{h:F6}(an:h.NoSeer):∃D,h.get? HB=j' D:=by refine aA an.mods λd s d=>fJ s λD d d e d=>?_;exact⟨D,e⟩
def d_(P:Params)(h:F6)(v:EI):WData->Prop|.int i=>∃t,v=.int i t|.list z=>∃d Y,h.get? d=j' {cls:=.type "list",data:=.seq Y.toArray}/\WellAll P h Y z/\v=.ref d|_=>True
theorem u4(o:Well P h v G):d_ P h v G:=by apply Well.casesOn (motive_1:=λv G _=>d_ P h v G) o<;>intros<;>first|trivial|exact⟨_,rfl⟩|exact⟨_,_,by assumption,by assumption,rfl⟩
def u5(P:Params)(h:F6)(Y:List EI):List WData->Prop|[]=>Y=[]|G::ds=>∃v f,Well P h v G/\WellAll P h f ds/\Y=v::f
theorem u6(o:WellAll P h Y ds):u5 P h Y ds:=o.casesOn (motive_2:=λY ds _=>u5 P h Y ds) rfl λd p=>⟨_,_,d,p,rfl⟩
theorem Ei{A:F7}{h:F6}{Z:EZ->Prop}(ns:List Int):∀{Y:List EI},WellAll A.params h Y (ofPys<|ns.map PyData.int)->Reps A h Z Y (ns.map V.int):=by induction ns with|nil=>intro Y x;exact(u6 x:Y=[])▸.nil|cons l ns ih=>intro Y x;refine cM (u6 x) λv f d p e=>ax (u4 d) λt e2=>?_;rw[e,e2];exact .cons (.int _ _)<|ih p
theorem Ej{n:a_}{x:EJ}(h:(si n.K x).ok=Do):n.mg x=.none:=by refine aA (Opt.get h) λD hK M=>bn M λf l hd hn=>dJ n.g λo' R ad e w d hf=>?_;rw[n.X _ _ hK]at e;obtain rfl:=EA e;rw[hd]at w;injection w with J L;rw[<-hf,<-J];exact hn
theorem Ek{n:a_}(h:(sg<|kx n.K<|Et "_law_far").ok=Do):∃t,n.mg (Et "_law_far")=j' (.int 1000000 t):=ax (Opt.get h) λt e=>⟨t,oh e⟩
theorem El{K:KN}{n:a_}{G:Nat}{ab:CW}(Q:Std n G ab)(hK:n.K=K)(e:iD K n G ab Q=Do)(c1:((E3 54).all λw=>(K.lookup<|gN w).any<|og K)=Do){w:Nat}{fn:Fn}(h:fO w=j' fn):FnOk n G tab ab (gN w) fn:=by have hf:w∈E3 54:=F3.mpr (by unfold fO at h;exact(EN.mp h).1);have e:=FE.mp e w hf;have e1:=FE.mp c1 w hf;rw[h]at e;cases ho:K.lookup (gN w)with|none=>rw[ho]at e;cases e|some D=>rw[ho]at e e1;exact Opt.get e (hK▸ho)<|hK▸e1
theorem Em{al:Hc}{A:F7}{r:EQ}{j E:EJ->Option EI}{u d:EZ}{ns:List Int}{K:KN}(hl:ns.length<=63)(ck:iC K=Do)(C:iD K=λi i i i=>Do)(H:K.In r.heap)(g:r.heap.Ns HN j)(p:r.heap.Ns NE E)(S:r.heap.NoLimit)(b:r.heap.NoSeer)(bi:∀x:EJ,x≠"__name__"->E x=JO x)(y:j (Et "law")=j' (.ref u))(a:Well A.params r.heap (.ref d)<|ofPy<|.list<|ns.map .int):Hl (EE al A) callerA (.call (.ref u) ⟨[.ref d],[]⟩) (λo s'=>o=.ok (.ret<|.bool Do)/\s'.gens=r.gens/\s'.os=r.os/\∀p D,r.heap.get? p=j' D->s'.heap.get? p=j' D) r:=by
 let n:a_:=⟨al,A,K,r.heap,j,E,H,g,p,S,Eh b,bi,l8,gN⟩;simp only[iC,Ft]at ck;refine aN ck λs c1=>aN s λz2 m=>aN z2 λz3 q=>aN z3 λz4 z=>aN z4 λf J=>aN f λc2 am=>?_;have T:Facts n:=zj (λw hf=>FE.mp c2 w<|F3.mpr hf) (λc hc=>FE.mp am c<|F3.mpr hc) J z;have af:u=n.fa 53:=by have e:=T.iq 53 "law" (by decide);rw[show n.mg (Et "law")=j' (.ref u)from y]at e;injection e with e;injection e
 clear y;subst af;have aZ:=zk T (λl hn=>Ej<|FE.mp m l hn) (Eb n) (Ek q) (λ{G ab}Q w fn h=>El Q rfl (congrFun (congrFun (congrFun (congrFun C n) G) ab) Q) c1 h) 40;have I:Inv n r.heap (λp=>∃D,r.heap.get? p=j' D) λi=>kf:=⟨λi i e=>e,λi M=>M,λi D e=>⟨D,e⟩,λi e=>aJ rfl e,λi i e=>by cases e⟩;have R:Reps A r.heap (λp=>∃D,r.heap.get? p=j' D) [F8 d] [.lst<|ns.map V.int]:=by refine cM (u4 a) λp Y e x M=>?_;obtain rfl:=Pm M;exact .cons (.lst d _ 0 _ ⟨_,e⟩ e<|Ei _ x) .nil
 refine IJ (aZ 53 _ _ _ (LL.CL ns hl) ⟨by decide,by decide,rfl⟩ I R) λo s' h=>?_;obtain⟨v,rfl,Z',H',x,P,I',rv,rfl⟩:=h;refine rv.gd ?_;exact⟨rfl,P.gens,P.os,λp D e=>P.keep p D e rfl⟩
theorem En:Lh.wellSaid=true:=by rw[Fast.te9446332074065402090];kernel_rfl
set_option maxHeartbeats 8000000 in
theorem Es:PySem.Challenge.rw_pq0085_01.Holds:=by
 refine holds_law En λk1=>?_;refine PySem.W.holds_open (q:=qv) (loose:=ju) (Xt:=xt) (XP:=PySem.W.XL qv []) (Yf:=λr=>(iC<|gO r.heap,iD<|gO r.heap)) (Ya:=λc=>(Do,λc c c c=>Do)) (YP:=λc h=>Ed h) (N:=4100) Eg (λA r e=>⟨_,Ec,aY Fe e,aY Prod.snd e⟩) (λA h h' az k=>?_) (λr e=>xl_of r (GY.mp e).1) PySem.W.XL.keeps (by rfl) (by rfl) (by rfl) (λr e=>recFacts_of (GY.mp e).2) (by rfl) k1 (by decide+kernel) ⟨rfl,rfl,rfl,rfl,rfl,by decide+kernel⟩ ?_ ?_;.refine aA az λK d p=>?_;exact⟨K,d.keeps k,p⟩
 .exact⟨[.list []],by decide+kernel,by decide+kernel⟩
 .intro A G l j E ab az u D pm n doc I aj ho hd m hD y hg args z as b f i bb w;refine a4 az λK H ck C=>?_;refine Ground.open ab ?_;intro T B Q J L;try(refine guard_noD Q (by decide+kernel) ?_;clear Q)
  wrow_args b f i bb w;all_goals first|refine callC_kw<|enter_call ?_|refine enter_call ?_|refine callC_kw<|enter_callW ?_|refine enter_callW ?_|w_how
  rename Well _ _ _ _=>a;rename¬_<_=>aw;refine IJ (Em (by omega) ck C H T.g T.b T.nolimit (Top.seer T<|by decide+kernel) T.builtins y a) λo s' g=>?_;refine bM g λs g1 g2 g3=>?_;clear g;subst s;refine GoodW.toG ⟨.inl ⟨.bool Do,.bool Do,[],rfl,raisesW_false<|by wrow_none_raised,.bool Do,?_,unshared_nil⟩,g3,g2,g1.trans hg⟩;wrow_post
end Mine.Internal
end
theorem PySem.Challenge.cw_pq0085_01_holds : PySem.Challenge.rw_pq0085_01.Holds :=
 Mine.Internal.Es
