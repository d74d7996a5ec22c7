import PyProof.Rows.All
import Wide.All
import OpenK.AllK
import Wide.FinOn
import PyProof.AttrMiss
import PyProof.IsiH_list
import PyProof.IsiH_dict
import PyProof.SetKind
import PyProof.Rows.SetFrom
import KE.KSortTup
import Lean
import PySem.Challenge.RW_pq0072_02
set_option autoImplicit false
set_option Elab.async false
set_option maxRecDepth 100000
set_option maxHeartbeats 8000000
set_option linter.all false
set_option backward.match.sparseCases false
namespace Mine
open PySem.Str renaming ofString->Dy,ofString_eq_toList->JJ,append_left_empty->J4
open PySem renaming wpAny_bind->Dz,Shared->DA,wpAny_pure->DE,Value->DF,wpAny_mono->DU,wpAny_holding->D2,Str->Ek,Around->Em,Addr->Ep,DictEntry->EB,wpAny_call_entry->EH,Heap->EI,builtinLookup_eq_fast->EN,sizeLine_eq->EP,Program->Fc,wpAny_setState_of->Fd,wpAny_standAt->Fj,World->Fs,wpAny_rule->Ft,typeLookup_type->Fz,wpAny_truthy_bool->FE,wpAny_newObj_type->FH,Builtin->FO,codeAny_builtin->FW,wpAny_forIn_list->F6,wpAny_callSpecial?_slot->Gc,codeAny_call_builtin->Gw,slot_dict_getitem->Gx,getMethod_builtin->Gy,arm_eval_Call_Name'->GD,isSubtype_type->GJ,wpAny_askSetting->GK,wpAny_specialOf->GT,plainId_quiet->GX,wpAny_notOrdered_dict->GY,wpAny_dictEntries->G2,wpAny_loadPart_at->G3,wpAny_pyIter_list->G6,wpAny_assign_Name->G7,wpAny_seqItems->Ha,NameKind->Hb,wpAny_updateDictKeys->Hc,wpAny_setField->Hh,wpAny_isInstance->Hj,wpAny_typeOf->Hl,codeAny_mono->Hm,wpAny_comprehension_free->Hr,Model->HK,wpAny_sequenceKey->HY,wpAny_pyNext_list_item->Ib,wpAny_storeSet_of->Ik,wpAny_pyNext_list_end->Im,Result->Iq,wpAny_newList->IA,wpAny_typeLookup_exc->IE,codeAny_of_tree->IQ,wpAny_ite_split->IR,wpAny_Assign_stores->IS,mem_of_lookup->IT,wpAny_tupleItemsOf->I0,intText?->I1,slot_dict_contains->I3,wpAny_Constant_int->I6,wpAny_Constant_str->I8,filterMap_getElem?_range->Jw,wpAny_getItem_str_slice->JB,noFill_tuple_add->JC,entryFor_of_tree->JG,codeAny_compStart_list->JL,wpAny_tests_nil->JX,wpAny_execs_nil->JY,isSubtype_tuple_tuple->J0,wpAny_isTrue_Compare1->J3,exec_Assign_Name_used->J5,wpAny_pyIter_keyiter->Kh,wpAny_newTuple->Kj,Fin->Kk,wpAny_setEntries_of->Kt,CmpOp->Ku,seq_tuple_add->Kw,wpAny_release->Kx,entry_dict_getitem->KA,wpAny_missed_other->KE,wpAny_load->KF,arm_eval_Attribute->KG,wpAny_call->KH,GenState->KN,slot_list_getitem->KU,args_dict_getitem->KW,slot_list_setitem->KX,slot_dict_setitem->KY,concat_meets->KZ,wpAny_pyIter_enum->K8,arm_eval_ListComp->Lb,wpAny_pyIter_slot->Lk,wpAny_setEpoch_of->Ll,wpAny_pyHash_int->Lm,wpAny_pyHash_str->Ln,beq_builtin_none->Lo,wpAny_updateDict->Lp,arm_assign_Tuple->Lr,wpAny_ret_mkInt->LC,wpAny_dictEpoch->LF,wpAny_updateSeq->LU,OsState->LV,Operator->LX,StoreFacts->LZ,typeIs_str->L6,intKind_is->Mh,wpAny_runValue->Mi,entryFor_alias->Mk,evalPart_none->Mm,wpAny_UnaryOp->Mn,wpAny_attempt->Mq,codeAny_loop->Mw,Thread->ME,Drawn->MH,wpAny_point->MI,wpAny_Slice->ML,wpAny_letGo->MP,IsRangeIter->MQ,wpAny_noted->MR,ObjNewFacts->MS,FuncData->MT,wpAny_of_eq->MW,Data->MX,Keyword->MZ,ScopeKind->M1,Walks->M3
open Nat renaming lt_of_le_of_lt->DC,lt_trans->DH,lt_of_lt_of_le->DI,le_trans->DM,le_refl->DQ,ne_of_lt->D1,lt_succ_self->D6,le_of_lt->D9,le_add_right->Ed,le_of_eq->Ee,succ_le_succ->Ei,lt_succ_of_lt->En,zero_le->Eo,lt_of_succ_lt->EE,add_le_add_left->EF,ne_of_gt->EY,le_of_ble_eq_true->EZ,not_lt->E2,le_succ->E6,lt_succ_iff_lt_or_eq->Fh,lt_irrefl->Fi,not_lt_zero->Fy,succ_pos->FB,le_succ_of_le->FG,zero_add->FK,lt_add_of_pos_right->FN,lt_or_ge->FP,le_of_lt_succ->FS,add_le_add->Gb,add_lt_add_left->GE,le_of_succ_le_succ->GO,le_add_left->GV,eq_of_beq_eq_true->GZ,add_le_add_right->Hf,add_assoc->Hs,beq->Hy,not_le->HE,lt_of_le_of_ne->HH,add_sub_cancel_left->HS,lt_succ_of_le->H7,sub_self->Ie,succ_add->Ih,mod_lt->Iy,not_succ_le_zero->IB,pow_le_pow_right->IJ,add_lt_add_right->IK,mul_le_mul_left->IU,add_right_comm->Je,mul_lt_mul_of_pos_left->Jg,succ_lt_succ->JF,add_comm->JM,max_le->JN,lt_of_succ_lt_succ->JO,min_le_left->JV,not_succ_le_self->Kf,add_lt_add->Kg,add_sub_cancel'->Kn,eq_zero_or_pos->KD,le_total->KO,sub_zero->KP,succ_le_of_lt->Le,mul_comm->Lg,lt_of_not_le->Ls,succ_ne_self->Lw,min_eq_left->LH,le_antisymm->LL,zero_lt_two->LN,strongRecOn->LO,blt_eq->Me,pow_succ->MB,lt_asymm->MD,log2_lt->MM,le_zero->MO,one_pos->MU
open List renaming length_map->DD,length_append->DG,mem_map->DO,getElem?_eq_some_iff->DR,mem_singleton->DS,range->DV,getElem?_eq_getElem->DW,not_mem_nil->DX,mem_append_right->D0,mem_range->D3,map_append->D4,mem_cons->D5,mem_append_left->D7,map_map->Ea,mem_append->Eb,getElem?_map->Ef,append_nil->Eg,map_congr_left->El,all_eq_true->Et,append_assoc->Ey,length_range->Ez,getD_eq_getElem?_getD->EA,mem_of_getElem?->EC,mem_cons_self->EJ,mem_filter->EM,nodup_cons->EO,lookup_cons->ET,nodup_append->EV,getElem?_append_right->EW,map_cons->E1,mem_cons_of_mem->E3,pairwise_map->E5,getElem?_eq_none->E8,getElem_mem->E9,pairwise_singleton->Fb,eq_nil_of_length_eq_zero->Fe,nodup_nil->Fg,append_cons->Fl,length_filter_le->Fm,filter_append->Fv,mem_iff_getElem?->FI,size_toArray->FU,getElem?_append_left->FY,nodup_range->F8,map_eq_nil_iff->Gf,getElem?_range->Gg,filterMap_cons->Gh,pairwise_lt_range->Gk,length->Gl,length_cons->Gn,cons_ne_nil->Gp,nodup_iff_pairwise_ne->Gr,drop_eq_getElem_cons->Gs,range_succ->Gu,forIn_cons->Gv,length_filterMap_le->GA,length_eq_zero_iff->GH,getElem_map->GI,drop_of_length_le->GP,pairwise_cons->GQ,filter_map->GU,mem_zipIdx_iff_getElem?->GW,getElem?_inj->G1,ext_getElem?->G5,pairwise_append->He,findIdx?_eq_none_iff->Ho,take_append_getElem->Ht,of_mem_zip->Hx,mem_filterMap->HC,length_zipIdx->HD,map_singleton->HI,filter_cons_of_pos->HQ,filter_cons_of_neg->HR,findIdx?_eq_some_iff_getElem->HU,filter_eq_nil_iff->HW,take_of_length_le->Ii,take_append_drop->Io,any_eq_true->Ip,isEmpty_iff->Iu,filter_cons->Iw,range_eq_range'->ID,lookup->IF,forall_mem_cons->IG,map_id->II,sum_append->IM,map_inj_right->IZ,getElem_range->I7,map_filterMap->I9,zip_cons_cons->Ja,map->Jb,perm_append_singleton->Jj,length_eraseIdx_of_lt->Jk,getElem?_eq_none_iff->Jn,sum_cons->Ju,ext_getElem->JE,eq_nil_or_concat->J6,concat_eq_append->J7,filterMap_append->J8,getElem?_toArray->Ka,length_reverse->Kr,filter_eq_self->Ks,filterMap_map->KI,zipIdx_append->KJ,length_range'->KM,reverse_cons->Ld,length_take->Lu,filter->LA,nil_append->LK,filter_nil->LM,zip->LW,drop_zero->L7,filterMap->Mb,perm_cons->Md,Nodup->Mf,map_id'->MA,range'->MF
open PySem.Heap renaming get?_push_of_some->DJ,get?_push_size->DZ,lt_size->Ec,get?_update_self->ED,SameBut->Fp,ExtBut->Jp,size_update->JA,get?_update_other->JQ,NewAttrErr->LP,size_push->Mj,mk->M0
open Option.some renaming inj->DN
open Bool renaming and_eq_true_iff->DP,false_ne_true->DY,noConfusion->EU,and_eq_true->FA,eq_false_iff->FQ,not->Ga,or_eq_true_iff->Gi,false_eq_true->Gq,eq_iff_iff->Hv,or_eq_true->Hw,not_eq_true'->Ic
open Array renaming length_toList->DT,getElem?_eq_getElem->D8,getElem?_toList->Eu,getElem?_eq_some_iff->EX,toList_push->Fo,mem_toList_iff->Fu,getElem?_eq_none_iff->FT,forIn_toList->GN,getElem?_eq_none->GR,toList_append->Hp,findIdx?_eq_some_iff_getElem->HB,toList_setIfInBounds->I5,getD->Ji,getElem_mem->Jq,mem_of_getElem?->J1,toList_modify->Kp,size_push->LQ,size_map->Mg
open Option renaming some_ne_none->Eh,map_eq_some_iff->Ew,isNone_iff_eq_none->ER,isSome_iff_exists->FJ,none->FL,bind_eq_some_iff->FM,eq_none_iff_forall_ne_some->HV,map->Mc,isSome->Mo
open PySem.Heap.SameBut renaming update->Ej,refl->Lj
open Int renaming ofNat_lt->EG,natCast_nonneg->EL,toNat_natCast->Fq,le_refl->F9,toNat_of_nonneg->Ge,eq_ofNat_of_zero_le->GF,fmod_eq_emod_of_nonneg->Hg,ofNat_le->HZ,fmod_nonneg_of_pos->Ig,toNat->Iv,add_sub_cancel->Jc,lt_of_lt_of_le->Jf,fmod_lt_of_pos->KL,le_trans->KR,lt_trans->KS,ne_of_gt->Lf,max_eq_right->Lq,natCast_add->LJ,not_lt->L0,lt_irrefl->Mp,toNat_lt->Mu,add_comm->MC
open List.cons renaming inj->ES,injEq->LD
open Prod.mk renaming inj->E0
open PySem.Obj renaming mapSeq->E7,putSet->Iz,mapFields->Jx,mapDictKeys->JT,data->L9,cls->Mx
open PySem.PyData renaming strOk->Ff,depthAll->JU,eqvAll->Kv,eqv->Ky,list->MJ
open Int.ofNat renaming inj->Fk
open List.Pairwise renaming filter->Fw
open PySem.Around renaming under_plainId->Fx
open PyProof.Rows renaming size_push'->FD,IntsAre->G4,listUpdate_at->Hu,get?_update_seq->Hz,numOf->HJ,entry_list_sort->JW,tail_any->Kc,slot_list_sort->Ke,seqEpoch_at->Ki,slot_tuple_getitem->Kz,Subscript_->KB,plain_sorted->K6,entry_sorted->K7,listItems_at->Li,kind_sorted->Lz,args_list_sort->L8,Attribute_any_->Ma,append_at->Mt,args_sorted1->Mv,Assign_Tuple->Mz
open ForInStep renaming yield->FV
open PySem.Builtin.Tuple renaming tupleHashOf->FX
open Classical renaming byContradiction->FZ
open PySem.Value renaming ref->F7,none->Gz,type->HG,int->HM,isInt_shape->Lh,str->Lv,isInt->Ly,builtin->Ml
open Nat.succ renaming inj->Gj
open PySem.SetTable.layClean renaming free->Gm
open PySem.F renaming slot_list_getattribute->GB,slot_dict_getattribute->GC,called_set->GS,slot_tuple_hash->G0,args_tuple_add_2->Hq,entry_tuple_add->HL,plainAttrs_list->HN,plainAttrs_dict->HO,slot_tuple_add->H0,entry_dict_get->H9,slot_dict_get->Il,slot_dict_setdefault->IP,slot_str_getitem->I4,plain_extend_loop->Jo,slot_list_extend->Jr,args_dict_get_2->JD,plain_list_iadd->JI,slot_tuple_eq->JS,type_dict_get->JZ,slot_dict_pop->J2,plain_set_new->J9,slot_dict_len->LI,slot_set_iter->LS
open PySem.Builtin.List renaming listExtendWith->G8,listLengthHint->IW,listSameRef->Jy
open False renaming elim->G9
open PySem.Calls renaming spliced_cons->Hn,callWith_builtin->Ir,spliced_nil->IH,call_function_entry->Jm,callWith_function->Lc,evalArgs_plain->LY
open PySem.Code renaming quiet_builtin->HF,builtin->My
open PySem.Builtin.Range renaming rangeSize->HP,rangeFitsLong->IV,small->Kq
open PyProof.Rows.F renaming plain_set_update_loop->HT,entry_set_update_loop->JH
open PySem.Txt renaming contains->HX,item->KQ,isspace->MG
open PySem.Value.type renaming inj->Ia
open PySem.SetTable.probe renaming go->Ij
open PySem.Expr renaming Name->IL,FormattedValue->Jl,JoinedStr->Kb,Constant->Ko,Call->LG
open LawfulBEq renaming eq_of_beq->IX
open And renaming right->IY
open PySem.Reads renaming list->I2,tuple->Lx
open Prod renaming fst->Jd,snd->La,ext->MV,mk->M4
open PySem.SetTable.below renaming go->Jh
open PySem.NameKind renaming cell->Js,free->Jt
open PySem.SetTable renaming fits->Jv,fill->Mr
open PySem.W.Looks renaming of_pure->Jz,andThen->Ms
open Eq renaming symm->JK
open PySem.pickOrder renaming go->JP
open PySem.W renaming SharedT->JR,kdu_collect->MN,enter_callW->MY
open Ne renaming symm->Km
theorem cj{A0 A1 A2 G:Prop}(h:A0/\A1/\A2)(k:A0->A1->A2->G):G:=k h.1 h.2.1 h.2.2
theorem Du{A0 A1 A2 A3 G:Prop}(h:A0/\A1/\A2/\A3)(k:A0->A1->A2->A3->G):G:=k h.1 h.2.1 h.2.2.1 h.2.2.2
theorem AL{A0 A1 A2 A3 A4 G:Prop}(h:A0/\A1/\A2/\A3/\A4)(k:A0->A1->A2->A3->A4->G):G:=k h.1 h.2.1 h.2.2.1 h.2.2.2.1 h.2.2.2.2
theorem Dv{A0 A1 A2 A3 A4 A5 A6 G:Prop}(h:A0/\A1/\A2/\A3/\A4/\A5/\A6)(k:A0->A1->A2->A3->A4->A5->A6->G):G:=k h.1 h.2.1 h.2.2.1 h.2.2.2.1 h.2.2.2.2.1 h.2.2.2.2.2.1 h.2.2.2.2.2.2
theorem aN{α0:Type}{A0 A1:α0->Prop}{G:Prop}(h:∃x0,A0 x0/\A1 x0)(k:∀x0,A0 x0->A1 x0->G):G:=h.elim λx0 h=>k x0 h.1 h.2
theorem aZ{α0:Type}{A0 A1 A2:α0->Prop}{G:Prop}(h:∃x0,A0 x0/\A1 x0/\A2 x0)(k:∀x0,A0 x0->A1 x0->A2 x0->G):G:=h.elim λx0 h=>k x0 h.1 h.2.1 h.2.2
theorem Dw{α0:Type}{A0 A1 A2 A3:α0->Prop}{G:Prop}(h:∃x0,A0 x0/\A1 x0/\A2 x0/\A3 x0)(k:∀x0,A0 x0->A1 x0->A2 x0->A3 x0->G):G:=h.elim λx0 h=>k x0 h.1 h.2.1 h.2.2.1 h.2.2.2
theorem De{α0:Type}{A0 A1 A2 A3 A4:α0->Prop}{G:Prop}(h:∃x0,A0 x0/\A1 x0/\A2 x0/\A3 x0/\A4 x0)(k:∀x0,A0 x0->A1 x0->A2 x0->A3 x0->A4 x0->G):G:=h.elim λx0 h=>k x0 h.1 h.2.1 h.2.2.1 h.2.2.2.1 h.2.2.2.2
theorem bf{α0 α1:Type}{A0 A1:α0->α1->Prop}{G:Prop}(h:∃x0 x1,A0 x0 x1/\A1 x0 x1)(k:∀x0 x1,A0 x0 x1->A1 x0 x1->G):G:=h.elim λx0 h=>h.elim λx1 h=>k x0 x1 h.1 h.2
theorem eB{α0 α1:Type}{A0 A1 A2:α0->α1->Prop}{G:Prop}(h:∃x0 x1,A0 x0 x1/\A1 x0 x1/\A2 x0 x1)(k:∀x0 x1,A0 x0 x1->A1 x0 x1->A2 x0 x1->G):G:=h.elim λx0 h=>h.elim λx1 h=>k x0 x1 h.1 h.2.1 h.2.2
theorem pO{α0 α1:Type}{A0 A1 A2 A3:α0->α1->Prop}{G:Prop}(h:∃x0 x1,A0 x0 x1/\A1 x0 x1/\A2 x0 x1/\A3 x0 x1)(k:∀x0 x1,A0 x0 x1->A1 x0 x1->A2 x0 x1->A3 x0 x1->G):G:=h.elim λx0 h=>h.elim λx1 h=>k x0 x1 h.1 h.2.1 h.2.2.1 h.2.2.2
theorem Dx{α0 α1:Type}{A0 A1 A2 A3 A4:α0->α1->Prop}{G:Prop}(h:∃x0 x1,A0 x0 x1/\A1 x0 x1/\A2 x0 x1/\A3 x0 x1/\A4 x0 x1)(k:∀x0 x1,A0 x0 x1->A1 x0 x1->A2 x0 x1->A3 x0 x1->A4 x0 x1->G):G:=h.elim λx0 h=>h.elim λx1 h=>k x0 x1 h.1 h.2.1 h.2.2.1 h.2.2.2.1 h.2.2.2.2
theorem AM{α0 α1:Type}{A0 A1 A2 A3 A4 A5:α0->α1->Prop}{G:Prop}(h:∃x0 x1,A0 x0 x1/\A1 x0 x1/\A2 x0 x1/\A3 x0 x1/\A4 x0 x1/\A5 x0 x1)(k:∀x0 x1,A0 x0 x1->A1 x0 x1->A2 x0 x1->A3 x0 x1->A4 x0 x1->A5 x0 x1->G):G:=h.elim λx0 h=>h.elim λx1 h=>k x0 x1 h.1 h.2.1 h.2.2.1 h.2.2.2.1 h.2.2.2.2.1 h.2.2.2.2.2
theorem iW{α0 α1 α2:Type}{A0 A1:α0->α1->α2->Prop}{G:Prop}(h:∃x0 x1 x2,A0 x0 x1 x2/\A1 x0 x1 x2)(k:∀x0 x1 x2,A0 x0 x1 x2->A1 x0 x1 x2->G):G:=h.elim λx0 h=>h.elim λx1 h=>h.elim λx2 h=>k x0 x1 x2 h.1 h.2
theorem tP{α0 α1 α2:Type}{A0 A1 A2:α0->α1->α2->Prop}{G:Prop}(h:∃x0 x1 x2,A0 x0 x1 x2/\A1 x0 x1 x2/\A2 x0 x1 x2)(k:∀x0 x1 x2,A0 x0 x1 x2->A1 x0 x1 x2->A2 x0 x1 x2->G):G:=h.elim λx0 h=>h.elim λx1 h=>h.elim λx2 h=>k x0 x1 x2 h.1 h.2.1 h.2.2
theorem iX{α0 α1 α2:Type}{A0 A1 A2 A3:α0->α1->α2->Prop}{G:Prop}(h:∃x0 x1 x2,A0 x0 x1 x2/\A1 x0 x1 x2/\A2 x0 x1 x2/\A3 x0 x1 x2)(k:∀x0 x1 x2,A0 x0 x1 x2->A1 x0 x1 x2->A2 x0 x1 x2->A3 x0 x1 x2->G):G:=h.elim λx0 h=>h.elim λx1 h=>h.elim λx2 h=>k x0 x1 x2 h.1 h.2.1 h.2.2.1 h.2.2.2
open PySem PySem.W PyProof.Rows PySem.Calls
set_option genSizeOf false
set_option genSizeOfSpec false
inductive al where
 | heap | bank | unions | keeper | consts
 | bNodes | bNumbers | bWeights | bDepths
 | uAbove | uLots | uMerged | uLot (i:Nat)
 | hEdges | hForest | hKnown | hAbove | hWaiting | hUse (i:Nat)
 | kVals (i:Nat) | kTold
 | loc (n:Nat)
 deriving DecidableEq
inductive Cl where
 | heap | bank | unions | keeper | consts
 deriving DecidableEq
noncomputable def Cl.addr:Cl->Ep
 | .heap=>483 | .bank=>271 | .unions=>353 | .keeper=>114 | .consts=>57
noncomputable def Cl.attrs:Cl->List String
 | .heap=>["bank","unions","edges","forest","known","above","waiting"]
 | .bank=>["nodes","numbers","weights","depths"]
 | .unions=>["above","lots","merged"]
 | .keeper=>["heap","analysis","values","told"]
 | .consts=>["n"]
inductive PV where
 | none
 | bool (b:Bool)
 | int (i:Int)
 | str (s:Str)
 | tup (l:List PV)
 | ref (p:al)
noncomputable def aG(a b:PV):Bool:=@decide (a=b) (Classical.propDecidable _)
theorem bg{a b:PV}:aG a b=true↔a=b:=by unfold aG;simp
theorem aJ(a:PV):aG a a=true:=bg.mpr rfl
theorem aC{a b:PV}(h:a≠b):aG a b=false:=by
 cases q:aG a b with
 | false=>rfl
 | true=>exact absurd (bg.mp q) h
theorem lN{a b:PV}:aG a b=false↔a≠b:=by
 constructor
 · intro h e;rw [bg.mpr e] at h;cases h
 · exact aC
inductive PO where
 | list (l:List PV)
 | dict (d:List (PV×PV))
 | inst (c:Cl) (fs:List (String×PV))
 | froz (l:List PV)
noncomputable def aa:=al->Option PO
noncomputable def aa.set(σ:aa)(p:al)(o:PO):aa:=λq=>if q=p then some o else σ q
theorem aa.set_self(σ:aa)(p:al)(o:PO):(σ.set p o) p=some o:=if_pos rfl
theorem aa.set_ne(σ:aa){p q:al}(o:PO)(h:q≠p):(σ.set p o) q=σ q:=if_neg h
theorem zJ(p:al):∃m,∀n,m<=n->al.loc n≠p:=by
 by_cases h:∃m,p=.loc m
 · exact h.elim λm e=>⟨m+1,λn hn q=>EY hn (al.loc.inj (q.trans e))⟩
 · exact ⟨0,λn _ e=>h ⟨n,e.symm⟩⟩
noncomputable def aB:List (PV×PV)->PV->Option PV
 | [],_=>none
 | (k,v)::r,x=>if aG k x=true then some v else aB r x
noncomputable def bB:List (PV×PV)->PV->PV->List (PV×PV)
 | [],x,y=>[(x,y)]
 | (k,v)::r,x,y=>if aG k x=true then (k,y)::r else (k,v)::bB r x y
noncomputable def gx:List (PV×PV)->PV->List (PV×PV)
 | [],_=>[]
 | (k,v)::r,x=>if aG k x=true then r else (k,v)::gx r x
structure ao where
 ad:al->Ep
 own:Ep->Option al
mutual
noncomputable def ak(L:ao)(h:EI):PV->DF->Prop
 | .none,v=>v=.none
 | .bool b,v=>v=.bool b
 | .int i,v=>∃t,v=.int i t
 | .str s,v=>∃t,v=.str s t
 | .tup l,v=>∃a items n,v=.ref a/\h.get? a=some ⟨.type "tuple",FL,.seq items n,#[]⟩/\L.own a=FL/\ag L h l items.toList
 | .ref p,v=>v=.ref (L.ad p)/\L.own (L.ad p)=some p
noncomputable def ag(L:ao)(h:EI):List PV->List DF->Prop
 | [],vs=>vs=[]
 | x::xs,vs=>∃v r,vs=v::r/\ak L h x v/\ag L h xs r
end
section
variable {L:ao} {h:EI}
theorem vI{i:Int}{t:Tok}:ak L h (.int i) (.int i t):=⟨t,rfl⟩
theorem vS{i:Str}{t:Tok}:ak L h (.str i) (.str i t):=⟨t,rfl⟩
theorem vB{b:Bool}:ak L h (.bool b) (.bool b):=rfl
theorem vN:ak L h .none .none:=rfl
@[elab_as_elim] theorem cX{α:Type}{m:α->Prop}{a v:α}(e:v=a)(k:m a):m v:=e▸k
@[elab_as_elim] theorem ak.intE{i:Int}{m:DF->Prop}{v:DF}(e:ak L h (.int i) v)(k:∀t,m (.int i t)):m v:=e.elim λt q=>cX q (k t)
@[elab_as_elim] theorem ak.strE{i:Str}{m:DF->Prop}{v:DF}(e:ak L h (.str i) v)(k:∀t,m (.str i t)):m v:=e.elim λt q=>cX q (k t)
@[elab_as_elim] theorem ak.tupE{l:List PV}{m:DF->Prop}{v:DF}(e:ak L h (.tup l) v)(k:∀a items n,h.get? a=some ⟨.type "tuple",FL,.seq items n,#[]⟩->L.own a=FL->ag L h l items.toList->m (.ref a)):m v:=
 e.elim λa e=>e.elim λis e=>e.elim λn q=>cX q.1 (k a is n q.2.1 q.2.2.1 q.2.2.2)
@[elab_as_elim] theorem ak.refE{p:al}{m:DF->Prop}{v:DF}(e:ak L h (.ref p) v)(k:L.own (L.ad p)=some p->m (.ref (L.ad p))):m v:=cX e.1 (k e.2)
@[elab_as_elim] theorem ag.nilE{m:List DF->Prop}{v:List DF}(e:ag L h [] v)(k:m []):m v:=cX e k
@[elab_as_elim] theorem ag.consE{x:PV}{l:List PV}{m:List DF->Prop}{v:List DF}(e:ag L h (x::l) v)(k:∀v r,ak L h x v->ag L h l r->m (v::r)):m v:=
 e.elim λv e=>e.elim λr q=>cX q.1 (k v r q.2.1 q.2.2)
@[elab_as_elim] theorem ag.oneE{x:PV}{m:List DF->Prop}{v:List DF}(e:ag L h [x] v)(k:∀v,ak L h x v->m [v]):m v:=e.consE λv _ h r=>r.nilE (k v h)
theorem ag.nil:ag L h [] []:=rfl
theorem ag.cons{x:PV}{xs:List PV}{v:DF}{r:List DF}(a:ak L h x v)(b:ag L h xs r):ag L h (x::xs) (v::r):=⟨v,r,rfl,a,b⟩
theorem ag.two{x:PV}{xs:List PV}{v:DF}{r:List DF}(e:ag L h (x::xs) (v::r)):ak L h x v/\ag L h xs r:=by
 obtain ⟨_,_,q,a⟩:=e;cases q;exact a
theorem ag.no{x:PV}{xs:List PV}(e:ag L h (x::xs) []):False:=e.elim λ_ e=>e.elim λ_ q=>nomatch q.1
@[elab_as_elim] theorem ag.consV{m:List PV->Prop}{v:DF}{r:List DF}:∀{l:List PV} (_:ag L h l (v::r)) (_:∀x l',ak L h x v->ag L h l' r->m (x::l')),m l
 | [],e,_=>nomatch (show v::r=[] from e)
 | x::l,e,k=>k x l e.two.1 e.two.2
@[elab_as_elim] theorem ag.nilV{m:List PV->Prop}:∀{l:List PV} (_:ag L h l []) (_:m []),m l
 | [],_,k=>k
 | _::_,e,_=>e.no.elim
theorem ag.length:∀{l:List PV} {vs:List DF},ag L h l vs->vs.length=l.length
 | [],_,e=>e.nilE rfl
 | _::_,_,e=>e.consE λ_ _ _ hr=>congrArg (·+1) hr.length
theorem ag.get:∀{l:List PV} {vs:List DF},ag L h l vs->∀(i:Nat) (x:PV),l[i]? = some x->∃v,vs[i]? = some v/\ak L h x v
 | [],_,_,_,_,hx=>nomatch hx
 | y::ys,_,e,0,x,hx=>e.consE λv _ hv _=>⟨v,rfl,DN hx▸hv⟩
 | y::ys,_,e,i+1,x,hx=>e.consE λ_ _ _ hr=>ag.get hr i x hx
theorem ag.append:∀{l:List PV} {vs:List DF} {l':List PV} {vs':List DF},ag L h l vs->ag L h l' vs'->ag L h (l ++ l') (vs ++ vs')
 | [],_,_,_,e,e'=>e.nilE e'
 | _::_,_,_,_,e,e'=>e.consE λ_ _ hv hr=>.cons hv (hr.append e')
end
structure Ex(X:Ep->Prop)(s s':DA)(L L':ao):Prop where
 size:s.heap.objs.size<=s'.heap.objs.size
 own:∀b,b < s.heap.objs.size->L'.own b=L.own b
 keep:∀b o,¬X b->L.own b=none->s.heap.get? b=some o->s'.heap.get? b=some o
 ad:∀p,L.own (L.ad p)=some p->L'.ad p=L.ad p/\L.ad p < s.heap.objs.size
abbrev bZ:Ep->Prop:=λ_=>False
structure VM(s s':DA)(L L':ao):Prop where
 tup:∀a items n,s.heap.get? a=some ⟨.type "tuple",FL,.seq items n,#[]⟩->L.own a=FL->
  s'.heap.get? a=some ⟨.type "tuple",FL,.seq items n,#[]⟩/\L'.own a=FL
 ref:∀p,L.own (L.ad p)=some p->L'.ad p=L.ad p/\L'.own (L.ad p)=some p
theorem Ex.vm{X:Ep->Prop}{s s':DA}{L L':ao}(E:Ex X s s' L L')(hX:∀b o items n,X b->s.heap.get? b=some o->o.data≠.seq items n):VM s s' L L' where
 tup:=λa items n ha ho=>⟨E.keep a _ (λhx=>hX a _ items n hx ha rfl) ho ha,(E.own a (Ec ha)).trans ho⟩
 ref:=λp hp=>by
  obtain ⟨h1,h2⟩:=E.ad p hp;exact ⟨h1,(E.own _ h2).trans hp⟩
mutual
theorem ak.mono{s s':DA}{L L':ao}(E:VM s s' L L'):∀{x:PV} {v:DF},ak L s.heap x v->ak L' s'.heap x v
 | .none,_,e=>e
 | .bool _,_,e=>e
 | .int _,_,e=>e
 | .str _,_,e=>e
 | .tup _,_,e=>e.tupE λa items n ha ho hl=>⟨a,items,n,rfl,(E.tup a items n ha ho).1,(E.tup a items n ha ho).2,ag.mono E hl⟩
 | .ref p,_,e=>e.refE λho=>⟨congrArg _ (E.ref p ho).1.symm,(congrArg _ (E.ref p ho).1).trans (E.ref p ho).2⟩
theorem ag.mono{s s':DA}{L L':ao}(E:VM s s' L L'):∀{l:List PV} {vs:List DF},ag L s.heap l vs->ag L' s'.heap l vs
 | [],_,e=>e
 | _::_,_,e=>e.consE λ_ _ hv hr=>.cons (ak.mono E hv) (ag.mono E hr)
end
mutual
noncomputable def aW(w:Fs):PV->Int
 | .int i=>hashInt i
 | .str x=>hashStr w x
 | .tup l=>reduceHash (FX (dw w l))
 | _=>0
noncomputable def dw(w:Fs):List PV->List Int
 | []=>[]
 | x::r=>aW w x::dw w r
end
mutual
noncomputable def aK:PV->Nat
 | .tup l=>aP l+1
 | _=>0
noncomputable def aP:List PV->Nat
 | []=>0
 | x::r=>max (aK x) (aP r)
end
mutual
noncomputable def cY:PV->Prop
 | .int _=>True
 | .str _=>True
 | .tup l=>fJ l
 | _=>False
noncomputable def fJ:List PV->Prop
 | []=>True
 | x::r=>cY x/\fJ r
end
noncomputable def cC:PV->Bool
 | .none=>true
 | .int _=>true
 | .str _=>true
 | _=>false
mutual
noncomputable def cZ:PV->PV->Prop
 | .tup l,y=>(match y with | .tup l'=>eR l l' | _=>False)
 | x,y=>cC x=true/\cC y=true
noncomputable def eR:List PV->List PV->Prop
 | x::r,ys=>(match ys with | y::r'=>cZ x y/\eR r r' | []=>True)
 | [],_=>True
end
theorem cZ.two:∀{x y:PV},cZ x y->(cC x=true/\cC y=true)\/∃l l',x=.tup l/\y=.tup l'/\eR l l':=by
 intro x y h;cases x with
 | tup l=>cases y with
  | tup l'=>exact .inr ⟨l,l',rfl,rfl,h⟩
  | _=>exact G9 h
 | _=>exact .inl h
@[elab_as_elim] theorem j4{m:PV->Prop}{x:PV}(h:cC x=true)(a:m .none)(b:∀i,m (.int i))(c:∀s,m (.str s)):m x:=by
 cases x with
 | none=>exact a
 | int i=>exact b i
 | str s=>exact c s
 | _=>exact nomatch h
theorem cZ.atom{x y:PV}(h:cZ x y)(hy:cC y=true):cC x=true:=
 h.two.elim And.left λh=>h.elim λ_ h=>h.elim λ_ h=>absurd ((congrArg cC h.2.1).symm.trans hy) DY
@[elab_as_elim] theorem pP{m:PV->Prop}{x:PV}(h:cY x)(b:∀i,m (.int i))(c:∀s,m (.str s))(d:∀l,fJ l->m (.tup l)):m x:=by
 cases x with
 | tup l=>exact d l h
 | int i=>exact b i
 | str s=>exact c s
 | _=>exact G9 h
structure EK(w:Fs)(L:ao)(h:EI)(k v:PV)(e:EB):Prop where
 key:ak L h k e.key
 val:ak L h v e.val
 hash:e.hash=aW w k
 ok:cY k
noncomputable def aA(w:Fs)(L:ao)(h:EI):List (PV×PV)->List EB->Prop
 | [],es=>es=[]
 | x::r,es=>∃e er,es=e::er/\EK w L h x.1 x.2 e/\aA w L h r er
@[elab_as_elim] theorem aA.consE{w:Fs}{L:ao}{h:EI}{x:PV×PV}{r:List (PV×PV)}{m:List EB->Prop}{es:List EB}(e:aA w L h (x::r) es)
 (f:∀e er,EK w L h x.1 x.2 e->aA w L h r er->m (e::er)):m es:=
 e.elim λe q=>q.elim λer q=>cX q.1 (f e er q.2.1 q.2.2)
theorem EK.mono{w:Fs}{s s':DA}{L L':ao}(E:VM s s' L L'){k v:PV}{e:EB}(h:EK w L s.heap k v e):EK w L' s'.heap k v e:=⟨h.key.mono E,h.val.mono E,h.hash,h.ok⟩
theorem aA.mono{w:Fs}{s s':DA}{L L':ao}(E:VM s s' L L'):∀{d:List (PV×PV)} {es:List EB},aA w L s.heap d es->aA w L' s'.heap d es
 | [],_,e=>e
 | _::_,_,e=>e.consE λx er h1 h5=>⟨x,er,rfl,h1.mono E,h5.mono E⟩
theorem Str.ofString_inj{a b:String}:Dy a=Dy b↔a=b:=by
 constructor
 · intro h;rw [JJ,JJ] at h;have h1:a.toList.map Char.toNat=b.toList.map Char.toNat:=by
    have:=congrArg Str.cps h
    simpa using congrArg Array.toList this
   have hinj:∀x y:Char,x.toNat=y.toNat->x=y:=λx y e=>Char.ext (UInt32.toNat_inj.mp e);have h2:a.toList=b.toList:=IZ (λ_ _=>hinj _ _) |>.mp h1;exact String.toList_inj.mp h2
 · intro h;rw [h]
noncomputable def cU(fs:List (String×PV))(x:String):Option PV:=match fs with
 | []=>none
 | (y,v)::r=>if y=x then some v else cU r x
noncomputable def dy(fs:List (String×PV))(x:String)(u:PV):List (String×PV):=match fs with
 | []=>[(x,u)]
 | (y,v)::r=>if y=x then (y,u)::r else (y,v)::dy r x u
inductive vw(L:ao)(h:EI)(p:al)(c:Cl)(fs:List (String×PV)):Prop
 | mk (dx o m):h.get? (L.ad p)=some o->o.cls=.ref c.addr->(∀cd,o.data≠.cls cd)->o.dict=some dx->L.own dx=some p->dx≠L.ad p->h.Ns1 dx m->
  (∀x v,cU fs x=some v->∃pv,m (Dy x)=some pv/\ak L h v pv)->(∀x v,cU fs x=some v->x∈c.attrs)->(∀y pv,m y=some pv->∃x v,y=Dy x/\cU fs x=some v)->
  Within m (fs.map λx=>Dy x.1)->vw L h p c fs
noncomputable def eS(w:Fs)(L:ao)(h:EI)(p:al):PO->Prop
 | .froz l=>∃items,h.IsList (L.ad p) items/\ag L h l items.toList
 | .list l=>∃items n,h.get? (L.ad p)=some ⟨.type "list",FL,.seq items n,#[]⟩/\ag L h l items.toList
 | .dict d=>∃es n,h.get? (L.ad p)=some ⟨.type "dict",FL,.dict es n,#[]⟩/\aA w L h d es.toList/\(d.map (·.1)).Nodup
 | .inst c fs=>vw L h p c fs
structure Cx where
 prog:Fc
 w:Fs
 h₀:EI
 gens:Array KN
 os:LV
structure Wd(c:Cx)(s:DA)(σ:aa)(L:ao):Prop where
 keep:∀b o,c.h₀.get? b=some o->s.heap.get? b=some o
 size0:c.h₀.objs.size<=s.heap.objs.size
 gens:s.gens=c.gens
 os:s.os=c.os
 old:∀b o,c.h₀.get? b=some o->L.own b=none\/∃p l,L.own b=some p/\σ p=some (.froz l)
 fresh:∀b,s.heap.objs.size<=b->L.own b=none
 live:∀p,(∃o,σ p=some o)↔L.own (L.ad p)=some p
 objs:∀p o,σ p=some o->eS c.w L s.heap p o
 fin:∃N,∀n,N<=n->σ (.loc n)=none
theorem Wd.own{c:Cx}{s:DA}{σ:aa}{L:ao}(W:Wd c s σ L){p:al}{o:PO}(h:σ p=some o):L.own (L.ad p)=some p:=(W.live p).mp ⟨o,h⟩
theorem Wd.adlt{c:Cx}{s:DA}{σ:aa}{L:ao}(W:Wd c s σ L){p:al}(h:L.own (L.ad p)=some p):L.ad p < s.heap.objs.size:=by
 rcases FP (L.ad p) s.heap.objs.size with q | q
 · exact q
 · rw [W.fresh _ q] at h;cases h
theorem Ex.refl{c:Cx}{X:Ep->Prop}{s:DA}{σ:aa}{L:ao}(W:Wd c s σ L):Ex X s s L L:=
 ⟨DQ _,λ_ _=>rfl,λ_ _ _ _ e=>e,λ_ h=>⟨rfl,W.adlt h⟩⟩
theorem Ex.trans{X:Ep->Prop}{s s₁ s':DA}{L L1 L':ao}(a:Ex X s s₁ L L1)(b:Ex X s₁ s' L1 L'):Ex X s s' L L' where
 size:=DM a.size b.size
 own:=λx h=>(b.own x (DI h a.size)).trans (a.own x h)
 keep:=λx o hX ho e=>b.keep x o hX ((a.own x (Ec e)).trans ho) (a.keep x o hX ho e)
 ad:=λp h=>by
  obtain ⟨h1,h2⟩:=a.ad p h;have h3:L1.own (L1.ad p)=some p:=by rw [h1,a.own _ h2];exact h
  obtain ⟨h4,_⟩:=b.ad p h3;exact ⟨by rw [h4,h1],h2⟩
theorem Ex.weak{X:Ep->Prop}{s s':DA}{L L':ao}(a:Ex bZ s s' L L'):Ex X s s' L L':=
 ⟨a.size,a.own,λb o _ ho e=>a.keep b o id ho e,a.ad⟩
theorem Ex.vm0{s s':DA}{L L':ao}(E:Ex bZ s s' L L'):VM s s' L L':=E.vm λ_ _ _ _ h=>h.elim
section
variable {prog:Fc} {w:Fs} {A:Em} {E:DF->DA->Prop} {s:DA} {L:ao}
theorem da{a:Ep}{items:Array DF}{n:Nat}(h:s.heap.get? a=some ⟨.type "tuple",FL,.seq items n,#[]⟩):s.TypeIs (.ref a) "tuple":=⟨_,h,rfl⟩
theorem ak.notRefPlc{h:EI}{l:List PV}{v:DF}(e:ak L h (.tup l) v):∃a,v=.ref a:=e.tupE λa _ _ _ _ _=>⟨a,rfl⟩
noncomputable def vA:DF->PV
 | .int i _=>.int i
 | .str i _=>.str i
 | _=>.none
theorem j5{h:EI}{x:PV}{v:DF}(hx:cC x=true):ak L h x v->vA v=x:=by
 refine j4 hx (λe=>?_) (λi e=>?_) λi e=>?_
 · exact cX (m:=λv=>vA v=.none) e rfl
 · exact e.intE λ_=>rfl
 · exact e.strE λ_=>rfl
mutual
theorem ak.inj{h:EI}:∀{x y:PV} {v:DF},cZ x y->ak L h x v->ak L h y v->x=y
 | .tup l,y,v,hc,hx,hy=>by
  rcases hc.two with c | ⟨l1,l',e,e',c⟩
  · exact nomatch c.1
  · rw [e'] at hy ⊢;refine iX hx λa i n q ha _ h1=>iX hy λa' i' n' q' ha' _ h2=>?_;have q:=Value.ref.inj (q.symm.trans q');rw [q,ha'] at ha;injection ha with ha
    injection ha with _ _ ha
    injection ha with ha
    injection e with e
    exact congrArg _ (ag.inj (e▸c) h1 (ha▸h2))
 | .none,_,_,hc,hx,hy=>(j5 hc.1 hx).symm.trans (j5 hc.2 hy)
 | .int _,_,_,hc,hx,hy=>(j5 hc.1 hx).symm.trans (j5 hc.2 hy)
 | .str _,_,_,hc,hx,hy=>(j5 hc.1 hx).symm.trans (j5 hc.2 hy)
 | .bool _,_,_,hc,_,_=>nomatch hc.1
 | .ref _,_,_,hc,_,_=>nomatch hc.1
theorem ag.inj{h:EI}:∀{l l':List PV} {v:List DF},eR l l'->ag L h l v->ag L h l' v->l=l'
 | [],l',v,_,h1,h2=>by
  rw [show v=[] from h1] at h2;exact ag.nilV (m:=λl=>[]=l) h2 rfl
 | x::r,l',v,hc,h1,h2=>by
  refine eB h1 λv0 rv q a b=>?_;rw [q] at h2;exact ag.consV (m:=λl=>eR (x::r) l->x::r=l) h2 (λy r' a' b' hc=>by rw [ak.inj hc.1 a a',ag.inj hc.2 b b']) hc
end
inductive y0(w:Fs)(L:ao)(l:List PV)(n:Nat)(s:DA)(rest:List DF):Array Int->DA->Prop
 | mk {b} (left t):dw w l=b.toList ++ dw w left->ag L s.heap left rest->fJ left->aP left<=n->y0 w L l n s rest b {s with toks:=t}
theorem nU:∀(n:Nat) {A:Em} {E:DF->DA->Prop} {s:DA} {x:PV} {v:DF} {Q:Int->DA->Prop},aK x<=n->cY x->A.units+n < cLine->ak L s.heap x v->
 (∀t,Q (aW w x) {s with toks:=t})->wpAny (model prog w) A (pyHash v) Q E s:=by
 intro n;induction n with
 | zero=>
  intro A E s x v Q hd hk hu;revert hd;exact pP hk (λi _ hv h=>hv.intE λ_=>Lm (h _)) (λi _ hv h=>hv.strE λ_=>Ln (h _)) λl _ hd=>absurd hd (IB _)
 | succ n ih=>
  intro A E s x v Q hd hk hu;revert hd;refine pP hk (λi _ hv h=>hv.intE λ_=>Lm (h _)) (λi _ hv h=>hv.strE λ_=>Ln (h _)) λl hk hd hv h=>?_;refine hv.tupE λa items k ha _ hl=>?_;have hT:=da ha;refine Dz (wpAny_cRoomFor_or (.inr (by lia)) ?_);refine Dz (GT hT G0.lookup ?_);show wpAny _ _ (if (some (Ml "tuple.__hash__") == some Gz)=true then _ else _) Q E s;rw [if_neg (by rw [Lo];exact DY)];refine Dz (GT hT G0.lookup ?_);show wpAny _ _ (callSpecialIfBoundUnlessNone? (.ref a) "__hash__" _ >>= _) Q E s;refine Dz (wpAny_callSpecialIfBoundUnlessNone?_slot hT G0 (EH G0 hT F.entry_tuple_hash ?_ (F.args_tuple_hash_1 _)));show wpAny _ _ (Builtin.Tuple.tupleItemsOf (.ref a) >>= _) _ _ s;refine Dz (I0 ha rfl ?_);refine Dz ?_;rw [← GN];refine F6 _ (y0 w L l n s) _ ?_ ?_ _ _ ⟨l,s.toks,rfl,hl,hk,GO hd⟩
  · rintro y rest b s' ⟨left,t,he,hleft,hk',hd'⟩;revert he hk' hd';refine hleft.consV λx left' hx hr he hk' hd'=>?_;change max (aK x) (aP left')<=_ at hd';exact Dz (ih (s:={s with toks:=t}) (by lia) hk'.1 (by show A.units+1+n < cLine;lia) hx λt'=>
     DE ⟨left',t',by rw [he,Fo,Ey];rfl,hr,hk'.2,by lia⟩)
  · rintro b s' ⟨left,t,he,hleft,hk',hd'⟩;revert he;refine hleft.nilV λhe=>?_;rw [show dw w []=[] from rfl,Eg] at he;show wpAny _ _ (retInt (FX b.toList)) _ _ _;rw [← he];refine LC ?_;have hh:=h (t+1);show wpAny _ _ (if (decide (-(2:Int) ^ 63<=FX (dw w l)) && decide (FX (dw w l) < 2 ^ 63))=true then _ else _) Q E _;rw [show aW w (.tup l)=reduceHash (FX (dw w l)) from rfl,reduceHash] at hh;split at hh
    · rename_i q;rw [if_pos q];exact DE hh
    · rename_i q;rw [if_neg q];exact Dz (Ft (DE hh))
end
section
variable {prog:Fc} {w:Fs} {L:ao}
theorem vy{A:Em}{E:DF->DA->Prop}{s:DA}{x y:PV}{u v:DF}{Q:DF->DA->Prop}(hx:cC x=true)(hy:cC y=true) :
 ak L s.heap x u->ak L s.heap y v->(∀b,aG x y=b->Q (.bool b) s)->wpAny (model prog w) A (richCompare .Eq u v) Q E s:=by
 show _->_->_->wpAny (model prog w) A (compareOp .Eq u v) Q E s;refine j4 hx ?_ (λi=>?_) λi=>?_ <;> refine j4 hy ?_ (λj=>?_) λj=>?_ <;> intro hu hv h
 · exact cX (v:=u) hu (cX (v:=v) hv (EqNone.eq_none_none (h _ (aJ _))))
 · exact cX (v:=u) hu (hv.intE λ_=>EqNone.eq_none_int (h _ (aC nofun)))
 · exact cX (v:=u) hu (hv.strE λ_=>EqNone.eq_none_str (h _ (aC nofun)))
 · exact hu.intE λ_=>cX (v:=v) hv (EqNone.eq_int_none (h _ (aC nofun)))
 · refine hu.intE λ_=>hv.intE λ_=>PyProof.Rows.eq_int (h _ (Hv.mpr ?_));rw [bg,beq_iff_eq,PV.int.injEq]
 · exact hu.intE λ_=>hv.strE λ_=>EqMixed.eq_int_str (h _ (aC nofun))
 · exact hu.strE λ_=>cX (v:=v) hv (EqNone.eq_str_none (h _ (aC nofun)))
 · exact hu.strE λ_=>hv.intE λ_=>EqMixed.eq_str_int (h _ (aC nofun))
 · refine hu.strE λ_=>hv.strE λ_=>PyProof.Rows.eq_str (h _ (Hv.mpr ?_));rw [bg,beq_iff_eq,PV.str.injEq]
theorem iJ{A:Em}{E:DF->DA->Prop}{s:DA}{x y:PV}{u v:DF}{Q:Bool->DA->Prop}(hc:cZ x y)
 (hu:ak L s.heap x u) (hv:ak L s.heap y v) (hr:wpAny (model prog w) A (richCompare .Eq u v) (λr s'=>∃b,r=.bool b/\Q b s') E s) (h:x=y->Q true s):wpAny (model prog w) A (eqBool u v) Q E s:=by
 refine D2 ?_;by_cases hab:(u == v)=true
 · rw [if_pos hab];exact Dz (Ft (DE (h (ak.inj hc hu ((IX hab:u=v)▸hv)))))
 · rw [if_neg hab];have main:wpAny (model prog w) A (do truthOfDropped (← richCompare .Eq u v)) Q E s:=
    Dz (DU hr (λr s' hb=>hb.elim λb hb=>cX (v:=r) hb.1 (FE hb.2)) λ_ _ e=>e)
   revert hu main;clear hr hab;rcases hc.two with c | ⟨l,l',e,_⟩
   · exact j4 c.1 (λhu=>cX (v:=u) hu id) (λ_ hu=>hu.intE λ_=>id) λ_ hu=>hu.strE λ_=>id
   · rw [e];exact λhu=>hu.tupE λ_ _ _ _ _ _=>id
inductive AN(L:ao)(s:DA)(n:Nat)(d:Prop)(z:Bool)(rest:List (DF×DF)):Option Kk×Unit->DA->Prop
 | mk (x y xs ys):rest=LW xs ys->ag L s.heap x xs->ag L s.heap y ys->aP x<=n->eR x y->(x=y↔d)->(xs.length == ys.length)=z->AN L s n d z rest (none,()) s
@[elab_as_elim] theorem Df{m:List DF->List DF->Prop}{p:DF×DF}{r:List (DF×DF)}:∀{xs ys:List DF} (_:p::r=LW xs ys) (_:∀xs ys,r=LW xs ys->m (p.1::xs) (p.2::ys)),m xs ys
 | x::xs,y::ys,e,k=>by cases e;exact k _ _ rfl
 | [],_,e,_=>nomatch (show p::r=[] from e)
 | _::_,[],e,_=>nomatch (show p::r=[] from e)
theorem AO:∀{xs ys:List DF},[]=LW xs ys->xs.length=ys.length->xs=[]/\ys=[]
 | [],[],_,_=>⟨rfl,rfl⟩
 | _::_,_::_,e,_=>nomatch (show []=_::_ from e)
 | [],_::_,_,e=>nomatch e
 | _::_,[],_,e=>nomatch e
theorem Cu:∀(n:Nat) {A:Em} {E:DF->DA->Prop} {s:DA} {x y:PV} {u v:DF} {Q:DF->DA->Prop},aK x<=n->cZ x y->A.units+n < cLine->
 ak L s.heap x u->ak L s.heap y v->(∀b,aG x y=b->Q (.bool b) s)->wpAny (model prog w) A (richCompare .Eq u v) Q E s:=by
 intro n;induction n with
 | zero=>
  intro A E s x y u v Q hd hc hU hu hv h;rcases hc.two with c | ⟨l,l',e,_⟩
  · exact vy c.1 c.2 hu hv h
  · rw [e] at hd;exact absurd hd (IB _)
 | succ n ih=>
  intro A E s x y u v Q hd hc hU hu hv h;rcases hc.two with c | ⟨l,l',e,e',hcs⟩
  · exact vy c.1 c.2 hu hv h
  rw [e] at hd hu h;rw [e'] at hv h;clear e e' hc;revert hu hv;refine λhu=>hu.tupE λa xs ka ha _ hl hv=>hv.tupE λb ys kb hb _ hl'=>?_;have hTb:=da hb;refine wpAny_richCompare_same_room (op:=.Eq) (da ha) hTb JS
   (EH JS (da ha) F.entry_tuple_eq ?_ (F.args_tuple_eq_2 _ _)) (by lia)
  show wpAny _ _ (isInstance (.ref b) (.type "tuple") >>= _) _ _ s;refine Dz (Hj hTb J0 ?_);rw [if_neg (by simp)];refine Dz (I0 ha rfl (Dz (I0 hb rfl (Dz ?_))));refine F6 _ (AN L s n (l=l') (xs.size == ys.size)) _ ?_ ?_ _ _ ⟨l,l',xs.toList,ys.toList,rfl,hl,hl',GO hd,hcs,Iff.rfl,by rw [DT,DT]⟩
  · rintro p rest r s' ⟨x,y,xs',ys',hz,hx,hy,hd',hc',hdec,hlen⟩;revert hx hy hlen;refine Df hz λxs' ys' hz hx hy hlen=>?_;revert hdec hd' hc';refine hx.consV λk1 x h1 hx=>hy.consV λk2 y h2 hy hd' hc' hdec=>?_;unfold aP at hd';have yes:k1=k2->AN L s n (l=l') (xs.size == ys.size) rest (none,()) s:=λe=>
     ⟨x,y,xs',ys',hz,hx,hy,by lia,hc'.2,by rw [← hdec,e,LD,and_iff_right rfl],by simpa using hlen⟩
    refine Dz (iJ (x:=k1) (y:=k2) hc'.1 h1 h2 (ih (by lia) hc'.1 (by show A.units+1+n < cLine;lia) h1 h2 λb hb=>⟨_,rfl,?_⟩) λe=>DE (yes e));cases b with
    | true=>exact DE (yes (bg.mp hb))
    | false=>
     exact DE (DE ⟨_,rfl,(λe=>nomatch e),h _ (aC λe=>lN.mp hb (ES (hdec.mpr (PV.tup.inj e))).1)⟩)
  · rintro r s' ⟨x,y,xs',ys',hz,hx,hy,hd',hc',hdec,hlen⟩;refine DE ⟨_,rfl,(λe=>nomatch e),h _ ?_⟩;show _=(xs.size == ys.size);rw [← hlen];by_cases e:l=l'
    · rw [e,aJ,hx.length,hy.length,hdec.mpr e,beq_self_eq_true]
    · rw [aC λq=>e (PV.tup.inj q)];refine (beq_eq_false_iff_ne.mpr λq=>?_).symm;rw [(AO hz q).1] at hx;rw [(AO hz q).2] at hy;exact e (hdec.mp (hx.nilV (hy.nilV rfl)))
theorem nV{A:Em}{E:DF->DA->Prop}{s:DA}{x y:PV}{u v:DF}{Q:Bool->DA->Prop}(hc:cZ x y)(hU:A.units+aK x < cLine)
 (hu:ak L s.heap x u) (hv:ak L s.heap y v) (h:Q (aG x y) s):wpAny (model prog w) A (eqBool u v) Q E s:=
 iJ hc hu hv (Cu _ (DQ _) hc hU hu hv λb e=>⟨b,rfl,e▸h⟩) λe=>bg.mpr e▸h
end
theorem jl{L:ao}{h:EI}{x:PV}{v:DF}(hx:cC x=true):ak L h x v->carriedByValue v=true:=
 j4 hx (λe=>cX (v:=v) e rfl) (λ_ e=>e.intE λ_=>rfl) λ_ e=>e.strE λ_=>rfl
section
variable {prog:Fc} {w:Fs} {L:ao}
theorem gh{A:Em}{E:DF->DA->Prop}{s:DA}{v:DF}{Q:Bool->DA->Prop}{n:Nat}(hv:carriedByValue v=true)(h:Q true s):wpAny (model prog w) A (eqIsQuiet n v) Q E s:=by
 rw [eqIsQuiet_byValue n hv];exact DE h
inductive C6(L:ao)(n:Nat)(s:DA)(rest:List DF):Option Bool×Unit->DA->Prop
 | mk (left):ag L s.heap left rest->fJ left->aP left<=n->C6 L n s rest (none,()) s
theorem iY:∀(n:Nat) {A:Em} {E:DF->DA->Prop} {s:DA} {x:PV} {v:DF} {Q:Bool->DA->Prop},aK x<=n->cY x->ak L s.heap x v->Q true s->
 wpAny (model prog w) A (eqIsQuiet n v) Q E s:=by
 intro n;induction n with
 | zero=>
  intro A E s x v Q hd hk hv h;revert hd hv;exact pP hk (λ_ _ e=>e.intE λ_=>gh rfl h) (λ_ _ e=>e.strE λ_=>gh rfl h) λl _ hd=>absurd hd (IB _)
 | succ n ih=>
  intro A E s x v Q hd hk hv h;revert hd hv;refine pP hk (λ_ _ e=>e.intE λ_=>gh rfl h) (λ_ _ e=>e.strE λ_=>gh rfl h) λl hk hd hv=>?_;refine hv.tupE λa items k ha _ hl=>?_;have hT:=da ha;unfold eqIsQuiet;refine Dz (GT hT JS.lookup ?_);show wpAny _ _ (isInstance (.ref a) (.type "tuple") >>= _) _ _ s;refine Dz (Hj hT J0 ?_);rw [if_neg (by simp)];refine Dz (Ha ha rfl (Dz ?_));show wpAny _ _ (forIn items _ _) _ _ s;rw [← GN];refine F6 _ (C6 L n s) _ ?_ ?_ _ _ ⟨l,hl,hk,GO hd⟩
  · rintro v rest r s' ⟨left,hleft,hk',hd'⟩;revert hk' hd';refine hleft.consV λx l' hx hr' hk' hd'=>?_;unfold aP at hd';exact Dz (ih (by lia) hk'.1 hx (DE ⟨l',hr',hk'.2,by lia⟩))
  · rintro r s' ⟨left,hleft,hk',hd'⟩;exact DE h
noncomputable def ck(d:List (PV×PV))(x:PV):Option Nat:=d.findIdx? λkv=>aG kv.1 x
theorem aA.length{h:EI}:∀{d:List (PV×PV)} {es:List EB},aA w L h d es->es.length=d.length
 | [],_,e=>cX (m:=λes=>Gl es=_) e rfl
 | _::_,_,e=>e.consE λ_ _ _ h5=>congrArg (·+1) h5.length
theorem aA.get{h:EI}:∀{d:List (PV×PV)} {es:List EB},aA w L h d es->∀(i:Nat) (e:EB),es[i]? = some e->∃k v,d[i]? = some (k,v)/\EK w L h k v e
 | [],es,e,_,_,hx=>by rw [show es=[] from e] at hx;exact nomatch hx
 | x::_,_,e,0,_,hx=>by revert hx;exact e.consE λe er h1 _ hx=>⟨x.1,x.2,rfl,DN hx▸h1⟩
 | _::_,_,e,i+1,_,hx=>by revert hx;exact e.consE λe er _ h5 hx=>h5.get i _ hx
theorem aA.at{h:EI}{d:List (PV×PV)}{es:Array EB}(R:aA w L h d es.toList){i:Nat}{e:EB}(he:es[i]? = some e):∃k v,d[i]? = some (k,v)/\EK w L h k v e:=
 R.get i e (Eu.trans he)
theorem aA.get'{h:EI}{d:List (PV×PV)}{es:Array EB}(R:aA w L h d es.toList){i:Nat}{k v:PV}(hd:d[i]? = some (k,v)):∃e,es[i]? = some e/\EK w L h k v e:=by
 have hi:i < es.toList.length:=R.length▸(DR.mp hd).1;have he:=DW hi;refine bf (R.get i _ he) λk' v' q rest=>?_;injection hd.symm.trans q with q
 injection q with q1 q2
 exact ⟨_,Eu.symm.trans he,q1▸q2▸rest⟩
theorem nW{d:List (PV×PV)}{x:PV}(h:∀(j:Nat) k v,d[j]? = some (k,v)->k≠x):ck d x=none:=
 Ho.mpr λkv hkv=>(FI.mp hkv).elim λj hj=>aC (h j kv.1 kv.2 hj)
theorem eK{d:List (PV×PV)}{x:PV}(hn:(d.map (·.1)).Nodup){j:Nat}{v:PV}(h:d[j]? = some (x,v)):ck d x=some j:=by
 have hj:=(DR.mp h).1;have hjx:=(DR.mp h).2;refine HU.mpr ⟨hj,by rw [hjx];exact aJ x,λi hi e=>?_⟩;have hid:=DH hi hj;have h1:(d.map (·.1))[i]? = (d.map (·.1))[j]?:=by rw [Ef,Ef,h,DW hid];exact congrArg some (bg.mp e)
 exact D1 hi ((G1 (by rwa [DD]) hn).mp h1)
def gR(d:List (PV×PV))(x:PV):Prop:=∀kv∈d,cZ kv.1 x/\aK kv.1<=8
noncomputable def lj(w:Fs)(es:Array EB)(x:PV)(i:Nat):List Nat:=(MF i (es.size - i)).filter (λi=>(es[i]?.map (·.hash)) == some (aW w x))
structure dq(d:List (PV×PV))(x:PV)(i:Nat)(hit:Option Nat):Prop where
 no:∀j v,j < i->d[j]? = some (x,v)->hit=some j
 yes:∀j,hit=some j->∃v,d[j]? = some (x,v)/\j < i
theorem dq.zero{d:List (PV×PV)}{x:PV}:dq d x 0 none:=⟨λ_ _ h=>absurd h (Fy _),nofun⟩
inductive vz{β:Type}(w:Fs)(es:Array EB)(d:List (PV×PV))(x:PV)(s:DA)(f:Option Nat->β)(ok:Option Nat->Prop)(rest:List Nat):β->DA->Prop
 | mk (i hit):rest=lj w es x i->dq d x i hit->ok hit->vz w es d x s f ok rest (f hit) s
theorem dq.stay{d:List (PV×PV)}{x k' v':PV}{y:Nat}{hit:Option Nat}(h:dq d x y hit)(hk:d[y]? = some (k',v'))(hne:¬k'=x):dq d x (y+1) hit:=by
 refine ⟨λj v hj e=>?_,λj e=>(h.yes j e).imp λv a=>⟨a.1,En a.2⟩⟩;rcases Fh.mp hj with q | q
 · exact h.no j v q e
 · rw [q,hk] at e;exact absurd (E0 (DN e)).1 hne
theorem dq.skip{d:List (PV×PV)}{x:PV}{i y:Nat}{hit:Option Nat}(h:dq d x i hit)(hi:i<=y)(hs:∀j v,i<=j->j < y->d[j]?≠some (x,v)):dq d x y hit:=
 ⟨λj v hj e=>(FP j i).elim (λq=>h.no j v q e) λq=>absurd e (hs j v q hj),λj e=>(h.yes j e).imp λv a=>⟨a.1,DI a.2 hi⟩⟩
theorem aA.asked{h:EI}{d:List (PV×PV)}{es:Array EB}(R:aA w L h d es.toList){x v:PV}{j:Nat}(hj:d[j]? = some (x,v)):((es[j]?.map (·.hash)) == some (aW w x))=true:=
 (R.get' hj).elim λe he=>beq_iff_eq.mpr (he.1▸congrArg some he.2.hash)
theorem ar1{i y n:Nat}(h1:i<=y)(h2:y < i+(n - i)):i+(n - i)=n:=by
 rcases KO i n with h | h
 · exact Kn h
 · rw [Nat.sub_eq_zero_of_le h] at h2;exact absurd h2 (Nat.not_lt_of_le h1)
theorem dq.turn{h:EI}{d:List (PV×PV)}{es:Array EB}(R:aA w L h d es.toList){x:PV}{i y:Nat}{hit:Option Nat}{rest:List Nat}{G:Prop}(hr:y::rest=lj w es x i)(hH:dq d x i hit)
 (f:∀e k v,es[y]? = some e->d[y]? = some (k,v)->EK w L h k v e->rest=lj w es x (y+1)->dq d x y hit->G):G:=by
 refine AL (filter_range'_cons _ _ _ _ _ hr.symm) λhix hxn hpx hskip hrest=>?_;have e:=ar1 hix hxn;have hex:=D8 (e▸hxn:y < es.size);refine bf (R.at hex) λk v hk h'=>f _ k v hex hk h' ?_ (hH.skip hix λj v q q' hj=>?_)
 · rw [hrest,lj,e]
 · exact absurd ((hskip j q q').symm.trans (R.asked hj)) DY
theorem dq.fin{h:EI}{d:List (PV×PV)}{es:Array EB}(R:aA w L h d es.toList)(hn:(d.map (·.1)).Nodup){x:PV}{i:Nat}{hit:Option Nat}(hr:[]=lj w es x i)(hH:dq d x i hit):ck d x=hit:=by
 cases hit with
 | none=>
  refine nW λj k v hj e=>?_;rw [e] at hj;rcases FP j i with q | q
  · exact nomatch hH.no j v q hj
  · have hjl:j < es.toList.length:=R.length▸(DR.mp hj).1;rw [DT] at hjl;exact absurd (R.asked hj) (HW.mp hr.symm j (List.mem_range'_1.mpr ⟨q,by lia⟩))
 | some j=>exact (hH.yes j rfl).elim λv a=>eK hn a.1
theorem Cv{α β:Type}{M:HK}{A:Em}{E:DF->DA->Prop}{Q:β->DA->Prop}{s:DA}{c:Prop}[Decidable c]{x y:Sem α}{f:α->Sem β}{a:α}(hx:∀Q':α->DA->Prop,Q' a s->wpAny M A x Q' E s)
 (hy:∀Q':α->DA->Prop,Q' a s->wpAny M A y Q' E s) (k:wpAny M A (f a) Q E s):wpAny M A (if c then x >>= f else y >>= f) Q E s:=by
 split
 · exact Dz (hx _ k)
 · exact Dz (hy _ k)
theorem pQ{A:Em}{E:DF->DA->Prop}{s:DA}{a:Ep}{o:Obj}{es:Array EB}{ep:Nat}{key:DF}{k x:PV}{e:EB}{β:Type}{f:Bool->Sem β}{g:Nat->Bool->Nat->Sem β}{Q:β->DA->Prop}(ho:s.heap.get? a=some o)(hd:o.data=.dict es ep)
 (hu:A.units+10 < cLine) (hc:cZ k x/\aK k<=8) (he:ak L s.heap k e.key) (hk:ak L s.heap x key) (h:wpAny (model prog w) A (f (aG k x)) Q E s) :
 wpAny (model prog w) A (dictEpoch a (keyPart key) >>= λb=>eqBool e.key key >>= λs=>dictEpoch a (keyPart key) >>= λb'=>if (b' != b)=true then g b s b' else f s) Q E s:=by
 refine Dz (LF ho hd (Dz (nV hc.1 (by have:=hc.2;lia) he hk (Dz (LF ho hd ?_)))));rw [if_neg (by rw [bne_self_eq_false];exact DY)];exact h
section
variable {A:Em} {E:DF->DA->Prop} {s:DA} {a:Ep} {o:Obj} {es:Array EB} {ep:Nat} {d:List (PV×PV)} {x:PV} {key:DF} {Q:Option Nat->DA->Prop}
theorem y6:placesWithHash es.size (λi=>es[i]?.map (·.hash)) (aW w x)=lj w es x 0:=by rw [lj,placesWithHash,ID,KP]
theorem nX(hu:A.units+10 < cLine)(ho:s.heap.get? a=some o)(hd:o.data=.dict es ep)(R:aA w L s.heap d es.toList)(hn:(d.map (·.1)).Nodup)
 (hD:gR d x) (hkey:ak L s.heap x key) (h:Q (ck d x) s):wpAny (model prog w) A (dictWalkPlain a key (aW w x) es (placesWithHash es.size (λi=>es[i]?.map (·.hash)) (aW w x))) Q E s:=by
 refine Dz ?_;refine F6 _ (vz w es d x s (λ_=>(none,())) (·=none)) _ ?_ ?_ _ _ ⟨0,none,y6,.zero,rfl⟩
 · rintro y rest b s' ⟨i,hit,hr,hH,q⟩;refine hH.turn R hr λe k' v' hex hk h' hrest hHy=>?_;rw [hex];have no:¬k'=x->vz w es d x s (λ_=>((none:Option (Option Nat)),())) (·=none) rest (none,()) s:=λhne=>⟨y+1,hit,hrest,hHy.stay hk hne,q⟩;by_cases hh:(e.hash == aW w x)=true
   · refine (congrArg (λm=>wpAny (model prog w) A m _ E s) (if_pos hh)).mpr ?_;refine pQ ho hd hu (hD _ (EC hk)) h'.key hkey ?_;by_cases hkk:k'=x
     · rw [bg.mpr hkk];rw [hkk] at hk;rw [eK hn hk] at h;exact Dz (Ft (DE (DE h)))
     · rw [aC hkk];exact Dz (Ft (DE (no hkk)))
   · refine (congrArg (λm=>wpAny (model prog w) A m _ E s) (if_neg hh)).mpr ?_;exact DE (no λq=>hh (beq_iff_eq.mpr (q▸h'.hash)))
 · rintro b s' ⟨i,hit,hr,hH,q⟩;rw [hH.fin R hn hr,q] at h;exact DE h
theorem nY{h:EI}{k:PV}{xs:Str}{u:DF}(hk:cC k=true):ak L h k u->(u.isStr xs=true↔k=.str xs):=by
 refine j4 hk (λe=>?_) (λi e=>?_) λi e=>?_
 · rw [show u=.none from e];exact ⟨nofun,nofun⟩
 · exact e.intE λ_=>⟨nofun,nofun⟩
 · exact e.strE λt=>by rw [Value.isStr,beq_iff_eq,PV.str.injEq]
theorem sE{h:EI}(R:aA w L h d es.toList)(hn:(d.map (·.1)).Nodup){xs:Str}(hD:gR d (.str xs)):es.findIdx? (λe=>e.key.isStr xs)=ck d (.str xs):=by
 have iff:∀{i e k v},d[i]? = some (k,v)->EK w L h k v e->(e.key.isStr xs=true↔k=.str xs):=λhk h'=>nY ((hD _ (EC hk)).1.atom rfl) h'.key;cases hq:es.findIdx? (λe=>e.key.isStr xs) with
 | none=>
  refine (nW λj k v hj e=>?_).symm;refine (R.get' hj).elim λy h'=>?_;exact absurd ((iff hj h'.2).mpr e) (FQ.mp (Array.findIdx?_eq_none_iff.mp hq y (J1 h'.1)))
 | some i=>
  refine (HB.mp hq).elim λhlt h1=>?_;refine bf (R.at (D8 hlt)) λk v hk h'=>?_;exact (eK hn ((iff hk h').mp h1.1▸hk)).symm
theorem xA(hu:A.units+10 < cLine)(ho:s.heap.get? a=some o)(hd:o.data=.dict es ep)(R:aA w L s.heap d es.toList)(hn:(d.map (·.1)).Nodup)
 {xs:Str} (hD:gR d (.str xs)) (hkey:ak L s.heap (.str xs) key) (h:Q (ck d (.str xs)) s):wpAny (model prog w) A (foundByValue a key es xs) Q E s:=by
 unfold foundByValue;rw [sE R hn hD];cases hq:ck d (.str xs) with
 | none=>rw [hq] at h;exact DE h
 | some i=>
  refine (HB.mp ((sE R hn hD).trans hq)).elim λhlt h1=>?_;have hex:=D8 hlt;refine bf (R.at hex) λk v hk h'=>?_;have hkx:=(nY ((hD _ (EC hk)).1.atom rfl) h'.key).mp h1.1;dsimp only;rw [hex];refine pQ ho hd hu (hD _ (EC hk)) h'.key hkey ?_;rw [bg.mpr hkx];rw [hq] at h;exact Dz (Ft (DE h))
theorem zK(hx:cY x)(hx8:aK x<=8)(R:aA w L s.heap d es.toList)(hD:gR d x)(hkey:ak L s.heap x key)(l:List Nat){Q':Bool->DA->Prop}(hq:Q' false s) :
 wpAny (model prog w) A (tableMayTell key (l.filterMap λi=>es[i]?.map (·.key))) Q' E s:=by
 unfold tableMayTell;split
 · exact DE hq
 · refine Dz (iY 8 hx8 hx hkey (Dz ?_));refine F6 _ (λrest r s'=>(s'=s/\r=(none,()))/\∀v∈rest,∃k,ak L s.heap k v/\cY k/\aK k<=8) _ ?_ ?_ _ _ ⟨⟨rfl,rfl⟩,λv hv=>?_⟩
   · intro y rest r s' hr;rw [hr.1.1];exact (hr.2 y EJ).elim λk h'=>Dz (iY 8 h'.2.2 h'.2.1 h'.1 (DE ⟨⟨rfl,rfl⟩,λv hv=>hr.2 v (E3 _ hv)⟩))
   · intro r s' hr;rw [hr.1.1,hr.1.2];exact DE hq
   · refine (HC.mp hv).elim λi hi=>(Ew.mp hi.2).elim λe he=>?_;exact bf (R.at he.1) λk v' h1 h2=>⟨k,he.2▸h2.key,h2.ok,(hD _ (EC h1)).2⟩
theorem vC{h:EI}{l:List Nat}(hat:cC x=true)(R:aA w L h d es.toList)(hD:gR d x)(hkey:ak L h x key):(key::l.filterMap λi=>es[i]?.map (·.key)).all carriedByValue=true:=by
 refine Et.mpr λv hv=>?_;rcases D5.mp hv with e | hv
 · exact e▸jl hat hkey
 · refine (HC.mp hv).elim λi hi=>(Ew.mp hi.2).elim λe he=>?_;exact bf (R.at he.1) λk v' h1 h2=>he.2▸jl ((hD _ (EC h1)).1.atom hat) h2.key
theorem xB{h:EI}(R:aA w L h d es.toList)(hD:gR d x)(hkey:ak L h x key):¬(es.any λe=>e.key == key && e.hash != aW w x)=true:=by
 rw [← Array.any_toList,Ip];refine λq=>q.elim λe q=>(FI.mp q.1).elim λi hi=>?_;refine bf (R.get i e hi) λk v h1 h2=>?_;have hc:=DP.mp q.2;exact bne_iff_ne.mp hc.2 (ak.inj (hD _ (EC h1)).1 h2.key (beq_iff_eq.mp hc.1▸hkey)▸h2.hash)
theorem kJ(hu:A.units+10 < cLine)(ho:s.heap.get? a=some o)(hd:o.data=.dict es ep)(R:aA w L s.heap d es.toList)(hn:(d.map (·.1)).Nodup)(hk:cY x)(hx8:aK x<=8)
 (hD:gR d x) (hkey:ak L s.heap x key) (h:Q (ck d x) s):wpAny (model prog w) A (dictFind a key (aW w x)) Q E s:=by
 refine D2 ?_;refine Dz (G2 ho hd ?_);revert hx8 hD hkey h;refine pP hk (λi _ hD e h=>?_) (λi _ hD e h=>?_) λl hk hx8 hD e h=>?_
 · rw [if_pos (vC rfl R hD e)];have old:=nX (A:=A) (E:=E) (prog:=prog) hu ho hd R hn hD e h;revert old;exact e.intE λ_=>id
 · rw [if_pos (vC rfl R hD e)];have old:=nX (A:=A) (E:=E) (prog:=prog) hu ho hd R hn hD e h;have new:=xA (A:=A) (E:=E) (prog:=prog) hu ho hd R hn hD e h;revert old new;refine e.strE λ_ old new=>?_;dsimp only;split
   · exact new
   · exact old
 · obtain ⟨b,hb⟩:=e.notRefPlc;subst hb;refine (congrArg (λm=>wpAny (model prog w) A m Q E s) (if_neg (FQ.mp rfl))).mpr ?_;refine (congrArg (λm=>wpAny (model prog w) A m Q E s) (if_neg (xB R hD e))).mpr ?_;refine Cv (a:=false) (λ_ h=>DE h) (λ_ h=>zK (x:=.tup l) hk hx8 R hD e _ h) ?_;refine Dz ?_;refine F6 _ (vz w es d (.tup l) s (λhit=>(none,hit)) λ_=>True) _ ?_ ?_ _ _ ⟨0,none,y6,.zero,trivial⟩
   · rintro y rest bb s' ⟨i,hit,hr,hH,_⟩;refine hH.turn R hr λe' k' v' hex hk h' hrest hHy=>?_;rw [hex];have no:¬k'=.tup l->vz w es d (.tup l) s (λhit=>((none:Option (Option Nat)),hit)) (λ_=>True) rest (none,hit) s:=λhne=>⟨y+1,hit,hrest,hHy.stay hk hne,trivial⟩;by_cases hh:(e'.hash == aW w (.tup l))=true
     · refine (congrArg (λm=>wpAny (model prog w) A m _ E s) (if_pos hh)).mpr ?_;refine pQ ho hd hu (hD _ (EC hk)) h'.key e ?_;by_cases hkk:k'=.tup l
       · rw [hkk] at hk;rw [bg.mpr hkk];have e2:=eK hn hk;cases hit with
         | some j=>exact (hHy.yes j rfl).elim λv a=>absurd a.2 (DN ((eK hn a.1).symm.trans e2)▸Fi _)
         | none=>
          refine Dz (Ft ?_);split
          · rw [e2] at h;exact DE (DE h)
          · exact DE ⟨y+1,some y,hrest,⟨λj v hj e=>eK hn e▸e2▸rfl,λj q=>DN q▸⟨_,hk,D6 y⟩⟩,trivial⟩
       · rw [aC hkk];refine Dz (Ft ?_);exact DE (no hkk)
     · refine (congrArg (λm=>wpAny (model prog w) A m _ E s) (if_neg hh)).mpr ?_;exact DE (no λq=>hh (beq_iff_eq.mpr (q▸h'.hash)))
   · rintro bb s' ⟨i,hit,hr,hH,_⟩;rw [hH.fin R hn hr] at h;exact DE h
end
end
set_option genSizeOf false
set_option genSizeOfSpec false
inductive Fn where
 | whole_of | c_init | c_of_node | c_joined
 | k_init | k_value | k_begun | k_reckoned | k_settle | k_clashes | k_fold
 | is_op | b_init | b_size | b_take | b_require | b_op | b_kids | b_term
 | u_init | u_make | u_size | u_find | u_merge | u_members | u_classes
 | h_init | h_size | h_node | h_add | h_put | h_look_at | h_find | h_are_like | h_merge | h_join | h_settle | h_is_settled | h_classes | h_members | h_nodes_of | h_users
 | l_leaves | l_dip | l_term | l_closed | l_worth | l_worths | l_due
 deriving DecidableEq
theorem Fn.idx_lt(f:Fn):f.ctorIdx < 49:=by cases f <;> exact EZ rfl
noncomputable def pE:List Fn:=(DV 49).map Fn.ofNat
theorem Fn.all{p:Fn->Bool}(h:pE.all p=true)(f:Fn):p f=true:=Et.mp h f (DO.mpr ⟨_,D3.mpr f.idx_lt,Fn.ofNat_ctorIdx f⟩)
noncomputable def Fn.addr(f:Fn):Ep:=[26,40,47,54,75,82,89,94,99,104,111,164,183,190,195,202,228,235,247,289,296,303,310,317,324,329,371,378,383,388,393,400,407,414,421,428,435,442,449,456,461,480,494,501,508,513,520,525,530].getD f.ctorIdx 0
noncomputable def Fn.gname(f:Fn):String:=
 ([(.whole_of,"whole_of"),(.is_op,"is_op"),(.l_leaves,"_law_leaves"),(.l_dip,"_law_dip"),(.l_term,"_law_term"),(.l_closed,"_law_closed"),(.l_worth,"_law_worth"),(.l_worths,"_law_worths"),(.l_due,"_law_due")].lookup f).getD "?"
noncomputable def Cl.gname:Cl->String
 | .heap=>"Heap" | .bank=>"Bank" | .unions=>"Unions" | .keeper=>"Keeper" | .consts=>"Consts"
noncomputable def Cl.init:Cl->Fn
 | .heap=>.h_init | .bank=>.b_init | .unions=>.u_init | .keeper=>.k_init | .consts=>.c_init
noncomputable def Cl.meths:Cl->List (String×Fn)
 | .heap=>[("size",.h_size),("node",.h_node),("add",.h_add),("put",.h_put),("look_at",.h_look_at),("find",.h_find),("are_like",.h_are_like),("merge",.h_merge),("join",.h_join),
  ("settle",.h_settle),("is_settled",.h_is_settled),("classes",.h_classes),("members",.h_members),("nodes_of",.h_nodes_of),("users",.h_users)]
 | .bank=>[("size",.b_size),("take",.b_take),("require",.b_require),("op",.b_op),("kids",.b_kids),("term",.b_term)]
 | .unions=>[("make",.u_make),("size",.u_size),("find",.u_find),("merge",.u_merge),("members",.u_members),("classes",.u_classes)]
 | .keeper=>[("value",.k_value),("begun",.k_begun),("reckoned",.k_reckoned),("settle",.k_settle),("clashes",.k_clashes),("fold",.k_fold)]
 | .consts=>[("of_node",.c_of_node),("joined",.c_joined)]
noncomputable def Cl.meth(c:Cl)(m:String):Option Fn:=c.meths.lookup m
inductive Bi where
 | len | list | dict | tuple | str | int | sum | max | sorted
 deriving DecidableEq
noncomputable def Bi.name:Bi->String
 | .len=>"len" | .list=>"list" | .dict=>"dict" | .tuple=>"tuple" | .str=>"str" | .int=>"int" | .sum=>"sum" | .max=>"max" | .sorted=>"sorted"
section
set_option genInjectivity false
inductive Tg where
 | name (x:String) (p:Pos)
 | pair (x:String) (px:Pos) (y:String) (py:Pos) (k:Nat) (p:Pos)
abbrev az:=List (String×Hb)
mutual
inductive E where
 | cst (c:Const) (k:Nat) (p:Pos)
 | var (x:String) (p:Pos)
 | attr (e:E) (a:String) (p:Pos)
 | tup (es:Es) (k:Nat) (p:Pos)
 | list (es:Es) (p:Pos)
 | dict0 (p:Pos)
 | dict1 (k v:E) (p:Pos)
 | sub (e i:E) (p:Pos)
 | slFrom (e:E) (n:Int) (pn ps p:Pos)
 | slTo (e:E) (n:Int) (pn ps p:Pos)
 | bin (a:E) (op:LX) (b:E) (p:Pos)
 | neg (e:E) (p:Pos)
 | test (t:T)
 | ife (t:T) (a b:E) (p:Pos)
 | bi (f:Bi) (pf:Pos) (args:Es) (p:Pos)
 | fn (f:Fn) (pf:Pos) (args:Es) (p:Pos)
 | new (c:Cl) (pf:Pos) (args:Es) (p:Pos)
 | isInt (e:E) (pf pi p:Pos)
 | sortedSet (e:E) (pf pg p2 p:Pos)
 | sortedGet (d:String) (pf pd pd2 pa pk p:Pos)
 | meth (e:E) (m:String) (pa:Pos) (args:Es) (p:Pos)
 | lcomp (elt:E) (t:Tg) (it:It) (ifs:Ts) (sc:az) (p:Pos)
 | dcomp (k v:E) (t:Tg) (it:It) (sc:az) (p:Pos)
 | fstr (pre:String) (p1:Pos) (e:E) (p2 p:Pos)
 | dsel (d w x:String) (p1 p2 p3 p4 p5 p6 p7 p8 p9 p10 p11:Pos) (sc:az) (p:Pos)
inductive Es where
 | nil
 | cons (e:E) (es:Es)
inductive T where
 | val (e:E)
 | not (t:T) (p:Pos)
 | bool (op:BoolOp) (ts:Ts) (p:Pos)
 | cmp (a:E) (op:Ku) (b:E) (p:Pos)
 | cmp2 (a:E) (op:Ku) (b:E) (op2:Ku) (c:E) (p:Pos)
inductive Ts where
 | nil
 | cons (t:T) (ts:Ts)
inductive It where
 | e (e:E)
 | range (pf:Pos) (e:E) (p:Pos)
 | enum (pf:Pos) (e:E) (p:Pos)
end
inductive aT where
 | name (x:String) (p:Pos)
 | attr (e:E) (a:String) (p:Pos)
 | sub (e i:E) (p:Pos)
mutual
inductive S where
 | asg (t:aT) (e:E) (p:Pos)
 | asgs (ts:List aT) (k:Nat) (pt:Pos) (e:E) (p:Pos)
 | expr (e:E) (p:Pos)
 | ret (e:E) (p:Pos)
 | ite (c:T) (a b:Ss) (p:Pos)
 | while (c:T) (b:Ss) (p:Pos)
 | for (t:Tg) (it:It) (b:Ss) (p:Pos)
 | raise (s:Stmt)
inductive Ss where
 | nil
 | cons (s:S) (ss:Ss)
end
end
noncomputable def Tg.py:Tg->Expr
 | .name x p=>.Name (Dy x) p
 | .pair x px y py k p=>.Tuple [.Name (Dy x) px,.Name (Dy y) py] k p
noncomputable def az.py(sc:az):Scope:={kind:=.function,names:=sc.map λx=>(Dy x.1,x.2),isGenerator:=false,isCoroutine:=false}
mutual
noncomputable def E.py:E->Expr
 | .cst c k p=>.Constant c k p
 | .var x p=>.Name (Dy x) p
 | .attr e a p=>.Attribute e.py (Dy a) p
 | .tup es k p=>.Tuple es.py k p
 | .list es p=>.List es.py p
 | .dict0 p=>.Dict [] [] p
 | .dict1 k v p=>.Dict [some k.py] [v.py] p
 | .sub e i p=>.Subscript e.py i.py p
 | .slFrom e n pn ps p=>.Subscript e.py (.Slice (some (.Constant (.int n) 0 pn)) none none ps) p
 | .slTo e n pn ps p=>.Subscript e.py (.Slice none (some (.Constant (.int n) 0 pn)) none ps) p
 | .bin a op b p=>.BinOp a.py op b.py p
 | .neg e p=>.UnaryOp .USub e.py p
 | .test t=>t.py
 | .ife t a b p=>.IfExp t.py a.py b.py p
 | .bi f pf args p=>.Call (.Name (Dy f.name) pf) args.py [] p
 | .fn f pf args p=>.Call (.Name (Dy f.gname) pf) args.py [] p
 | .new c pf args p=>.Call (.Name (Dy c.gname) pf) args.py [] p
 | .isInt e pf pi p=>.Call (.Name (Dy "isinstance") pf) [e.py,.Name (Dy "int") pi] [] p
 | .sortedSet e pf pg p2 p=>.Call (.Name (Dy "sorted") pf) [.Call (.Name (Dy "set") pg) [e.py] [] p2] [] p
 | .sortedGet d pf pd pd2 pa pk p=>.Call (.Name (Dy "sorted") pf) [.Name (Dy d) pd] [⟨some (Dy "key"),.Attribute (.Name (Dy d) pd2) (Dy "get") pa,pk⟩] p
 | .meth e m pa args p=>.Call (.Attribute e.py (Dy m) pa) args.py [] p
 | .lcomp elt t it ifs sc p=>.ListComp elt.py [⟨t.py,it.py,ifs.py,0⟩] sc.py p
 | .dcomp k v t it sc p=>.DictComp k.py v.py [⟨t.py,it.py,[],0⟩] sc.py p
 | .dsel d w x p1 p2 p3 p4 p5 p6 p7 p8 p9 p10 p11 sc p=>.ListComp (.Subscript (.Name (Dy d) p1) (.Name (Dy x) p2) p3) [⟨.Name (Dy x) p4,.Name (Dy d) p5,[.Compare (.Call (.Attribute (.Name (Dy w) p6) (Dy "get") p7) [.Name (Dy x) p8] [] p9) [.Eq] [.Constant (.str (Dy "clash")) 0 p10] p11],0⟩] sc.py p
 | .fstr pre p1 e p2 p=>.JoinedStr [.Constant (.str (Dy pre)) 0 p1,.FormattedValue e.py (-1) none p2] p
noncomputable def Es.py:Es->List Expr
 | .nil=>[]
 | .cons e es=>e.py::es.py
noncomputable def T.py:T->Expr
 | .val e=>e.py
 | .not t p=>.UnaryOp .Not t.py p
 | .bool op ts p=>.BoolOp op ts.py p
 | .cmp a op b p=>.Compare a.py [op] [b.py] p
 | .cmp2 a op b op2 c p=>.Compare a.py [op,op2] [b.py,c.py] p
noncomputable def Ts.py:Ts->List Expr
 | .nil=>[]
 | .cons t ts=>t.py::ts.py
noncomputable def It.py:It->Expr
 | .e e=>e.py
 | .range pf e p=>.Call (.Name (Dy "range") pf) [e.py] [] p
 | .enum pf e p=>.Call (.Name (Dy "enumerate") pf) [e.py] [] p
end
noncomputable def aT.py:aT->Expr
 | .name x p=>.Name (Dy x) p
 | .attr e a p=>.Attribute e.py (Dy a) p
 | .sub e i p=>.Subscript e.py i.py p
mutual
noncomputable def S.py:S->Stmt
 | .asg t e p=>.Assign [t.py] e.py p
 | .asgs ts k pt e p=>.Assign [.Tuple (ts.map aT.py) k pt] e.py p
 | .expr e p=>.Expr e.py p
 | .ret e p=>.Return (some e.py) p
 | .ite c a b p=>.If c.py a.py b.py p
 | .while c b p=>.While c.py b.py [] p
 | .for t it b p=>.For t.py it.py b.py [] p
 | .raise s=>s
noncomputable def Ss.py:Ss->List Stmt
 | .nil=>[]
 | .cons s ss=>s.py::ss.py
end
abbrev af:=String->Option PV
noncomputable def af.put(ρ:af)(x:String)(v:PV):af:=λy=>if y=x then some v else ρ y
inductive Ev{α:Type}(o:Option α)(Q:α->Prop):Prop
 | mk (v:α) (h:o=some v) (q:Q v):Ev o Q
inductive y7(o:Option PV)(Q:PV->aa->Prop)(σ:aa):Prop
 | mk (v:PV) (h:o=some v) (q:Q v σ):y7 o Q σ
noncomputable def aQ(σ:aa)(o:PO)(Q:PV->aa->Prop):Prop:=
 (∀n,σ (.loc n)=none->Q (.ref (.loc n)) (σ.set (.loc n) o))\/(∃p,σ p=none/\Q (.ref p) (σ.set p o))
noncomputable def pR(a:String):PO->Option PV
 | .inst _ fs=>cU fs a
 | _=>none
noncomputable def bS(σ:aa)(v:PV)(a:String):Option PV:=match v with
 | .ref p=>(σ p).bind (pR a)
 | _=>none
noncomputable def ay:Nat:=1000000
noncomputable def DK(d:List (PV×PV))(x:PV):Prop:=cY x/\aK x<=8/\gR d x
noncomputable def y8:PV->Option Int
 | .int i=>some i
 | _=>none
noncomputable def a6:List PV->Option (List Int)
 | []=>some []
 | x::r=>(y8 x).bind λi=>(a6 r).map (i::·)
theorem xC{x:PV}{i:Int}(h:y8 x=some i):x=.int i:=by
 cases x with
 | int j=>exact congrArg _ (DN h)
 | _=>exact nomatch h
theorem a7:∀{l:List PV} {ns:List Int},a6 l=some ns->l=ns.map .int
 | [],_,e=>by rw [← DN e];rfl
 | x::l,ns,e=>(FM.mp e).elim λi h=>(Ew.mp h.2).elim λr q=>by rw [← q.2,xC h.1,a7 q.1];rfl
noncomputable def bD:PV->Bool
 | .tup (.str _::r)=>(a6 r).isSome
 | _=>false
inductive MK where
 | fn (f:Fn) | lAppend | lExtend | lPop | dGet | dPop | dSetdef | sIsspace
noncomputable def pS:List (String×MK):=[("append",.lAppend),("extend",.lExtend),("pop",.lPop)]
noncomputable def pT:List (String×MK):=[("get",.dGet),("pop",.dPop),("setdefault",.dSetdef)]
noncomputable def iK(m:String):PO->Option MK
 | .inst c fs=>if (cU fs m).isNone=true then (c.meth m).map .fn else none
 | .list _=>pS.lookup m
 | .dict _=>pT.lookup m
 | _=>none
noncomputable def ff(σ:aa)(v:PV)(m:String):Option MK:=match v with
 | .ref p=>(σ p).bind (iK m)
 | .str _=>if m = "isspace" then some .sIsspace else none
 | _=>none
abbrev CP:=Nat->Fn->List PV->aa->(PV->aa->Prop)->Prop
inductive cb(σ:aa)(Q:PV->aa->Prop):MK->PV->List PV->Prop
 | app {p x l}:σ p=some (.list l)->l.length < ay->Q .none (σ.set p (.list (l ++ [x])))->cb σ Q .lAppend (.ref p) [x]
 | ext {p q l l'}:σ p=some (.list l)->σ q=some (.list l')->l.length+l'.length < ay->Q .none (σ.set p (.list (l ++ l')))->cb σ Q .lExtend (.ref p) [.ref q]
 | pop {p l x}:σ p=some (.list l)->l.getLast? = some x->l.length < ay->Q x (σ.set p (.list l.dropLast))->cb σ Q .lPop (.ref p) []
 | get {p d x}:σ p=some (.dict d)->DK d x->Q ((aB d x).getD .none) σ->cb σ Q .dGet (.ref p) [x]
 | dpop {p d i y}:σ p=some (.dict d)->DK d (.int i)->d.length < ay->aB d (.int i)=some y->Q y (σ.set p (.dict (gx d (.int i))))->cb σ Q .dPop (.ref p) [.int i]
 | setd {p d x y}:σ p=some (.dict d)->DK d x->d.length < ay->(∀z,aB d x=some z->Q z σ)->(aB d x=none->Q y (σ.set p (.dict (d ++ [(x,y)]))))->cb σ Q .dSetdef (.ref p) [x,y]
 | sp {s}:Q (.bool (MG s)) σ->cb σ Q .sIsspace (.str s) []
@[reducible] noncomputable def pU(C:CP)(k:Nat)(mk:MK)(v:PV)(args:List PV)(σ:aa)(Q:PV->aa->Prop):Prop:=match mk with
 | .fn f=>C k f (v::args) σ Q
 | mk=>cb σ Q mk v args
noncomputable def lO:PV->Option (PV×PV)
 | .tup [a,b]=>some (a,b)
 | _=>none
theorem nZ{v:PV}{q:PV×PV}(h:lO v=some q):v=.tup [q.1,q.2]:=by
 cases v with
 | tup l=>cases l with
  | nil=>exact nomatch h
  | cons a l=>cases l with
   | nil=>exact nomatch h
   | cons b l=>cases l with
    | nil=>exact DN h▸rfl
    | cons _ _=>exact nomatch h
 | _=>exact nomatch h
noncomputable def cJ:List PV->List (PV×PV)->(List (PV×PV)->Prop)->Prop
 | [],d,K=>K d
 | x::r,d,K=>Ev (lO x) λq=>DK d q.1/\cJ r (bB d q.1 q.2) K
inductive bC(σ:aa)(Q:PV->aa->Prop):Bi->List PV->Prop
 | lenL {p l}:σ p=some (.list l)->l.length < ay->Q (.int l.length) σ->bC σ Q .len [.ref p]
 | lenD {p d}:σ p=some (.dict d)->d.length < ay->Q (.int d.length) σ->bC σ Q .len [.ref p]
 | lenT {l}:l.length < ay->Q (.int l.length) σ->bC σ Q .len [.tup l]
 | lenS {s}:s.length < ay->Q (.int s.length) σ->bC σ Q .len [.str s]
 | list {p l}:σ p=some (.list l)->l.length < ay->aQ σ (.list l) Q->bC σ Q .list [.ref p]
 | dict {p l}:σ p=some (.list l)->l.length < ay->cJ l [] (λd=>aQ σ (.dict d) Q)->bC σ Q .dict [.ref p]
 | tupL {p l}:σ p=some (.list l)->l.length < ay->Q (.tup l) σ->bC σ Q .tuple [.ref p]
 | tupT {l}:Q (.tup l) σ->bC σ Q .tuple [.tup l]
 | str {i}:i.natAbs < 2 ^ 60->Q (.str (Dy (toString i))) σ->bC σ Q .str [.int i]
 | intI {i}:Q (.int i) σ->bC σ Q .int [.int i]
 | intS {s} (n):I1 s=some n->s.length<=640->Q (.int n) σ->bC σ Q .int [.str s]
 | sum {p l} (ns):σ p=some (.list l)->a6 l=some ns->l.length < ay->(∀n∈ns,0<=n)->ns.sum < 2 ^ 62->Q (.int ns.sum) σ->bC σ Q .sum [.ref p]
 | max {p l} (ns):σ p=some (.list l)->a6 l=some ns->l.length < ay->ns≠[]->(∀m,m∈ns->(∀x∈ns,x<=m)->Q (.int m) σ)->bC σ Q .max [.ref p]
 | sortL {p l} (ns):σ p=some (.list l)->a6 l=some ns->l.length < 64->(∀r:List Int,r.Perm ns->r.Pairwise (·<=·)->aQ σ (.list (r.map .int)) Q)->bC σ Q .sorted [.ref p]
 | sortD {p d} (ns):σ p=some (.dict d)->a6 (d.map (·.1))=some ns->d.length < 64->(∀r:List Int,r.Perm ns->r.Pairwise (·<=·)->aQ σ (.list (r.map .int)) Q)->bC σ Q .sorted [.ref p]
inductive dr(σ:aa)(Q:PV->aa->Prop):LX->PV->PV->Prop
 | addI {i j}:Q (.int (i+j)) σ->dr σ Q .Add (.int i) (.int j)
 | addS {a b}:a.length+b.length < ay->Q (.str (a ++ b)) σ->dr σ Q .Add (.str a) (.str b)
 | addT {a b}:a.length+b.length < ay->Q (.tup (a ++ b)) σ->dr σ Q .Add (.tup a) (.tup b)
 | addL {p q l l'}:σ p=some (.list l)->σ q=some (.list l')->l.length+l'.length < ay->aQ σ (.list (l ++ l')) Q->dr σ Q .Add (.ref p) (.ref q)
 | sub {i j}:Q (.int (i - j)) σ->dr σ Q .Sub (.int i) (.int j)
 | mul {i j}:i.natAbs < 2 ^ 62->j.natAbs < 2 ^ 62->Q (.int (i*j)) σ->dr σ Q .Mult (.int i) (.int j)
 | mod {i j}:j≠0->Q (.int (i.fmod j)) σ->dr σ Q .Mod (.int i) (.int j)
inductive eg(σ:aa)(Q:PV->aa->Prop):PV->PV->Prop
 | tup {l n x}:0<=n->n < 2 ^ 62->l[n.toNat]? = some x->Q x σ->eg σ Q (.tup l) (.int n)
 | str {s n}:0<=n->n < (s.length:Int)->s.length < ay->Q (.str (KQ s n)) σ->eg σ Q (.str s) (.int n)
 | li {p l n x}:σ p=some (.list l)->0<=n->n < 2 ^ 62->l[n.toNat]? = some x->Q x σ->eg σ Q (.ref p) (.int n)
 | di {p d i x}:σ p=some (.dict d)->DK d i->aB d i=some x->Q x σ->eg σ Q (.ref p) i
inductive eh(σ:aa)(Q:aa->Prop)(x:PV):PV->PV->Prop
 | li {p l n}:σ p=some (.list l)->0<=n->n < 2 ^ 62->n.toNat < l.length->Q (σ.set p (.list (l.set n.toNat x)))->eh σ Q x (.ref p) (.int n)
 | di {p d i}:σ p=some (.dict d)->DK d i->d.length < ay->Q (σ.set p (.dict (bB d i x)))->eh σ Q x (.ref p) i
noncomputable def bQ(x:Str)(l u:Option (Int×Tok)):Str:=
 if (1 == 1 && (slicePicked x l u none).length == x.length)=true then x else ⟨((slicePicked x l u none).filterMap (x.cps[·]?)).toArray⟩
inductive iL(σ:aa)(Q:PV->aa->Prop)(n:Nat):PV->Prop
 | tup {l}:1<=n->n<=l.length->l.length < ay->Q (.tup (l.drop n)) σ->iL σ Q n (.tup l)
 | str {s}:(bQ s (some (n,0)) none).length < ay->Q (.str (bQ s (some (n,0)) none)) σ->iL σ Q n (.str s)
inductive pV(σ:aa)(Q:PV->aa->Prop)(n:Nat):PV->Prop
 | str {s}:(bQ s none (some (n,0))).length < ay->Q (.str (bQ s none (some (n,0)))) σ->pV σ Q n (.str s)
 | li {p l}:σ p=some (.list l)->l.length < ay->aQ σ (.list (l.take n)) Q->pV σ Q n (.ref p)
 | fr {p l}:σ p=some (.froz l)->l.length < ay->aQ σ (.list (l.take n)) Q->pV σ Q n (.ref p)
mutual
noncomputable def plain:PV->Bool
 | .none=>true
 | .int _=>true
 | .str s=>Ff s
 | .tup l=>plains l
 | _=>false
noncomputable def plains:List PV->Bool
 | []=>true
 | x::r=>plain x && plains r
end
inductive mV(σ:aa)(K:Bool->Prop):PV->PV->Prop
 | pl {v u}:plain v=true->plain u=true->aK v<=8->K (aG v u)->mV σ K v u
 | li {p q l l'}:σ p=some (.list l)->σ q=some (.list l')->plains l=true->plains l'=true->aP l<=8->K (aG (.tup l) (.tup l'))->mV σ K (.ref p) (.ref q)
noncomputable def fB(x:PV):List PV->Bool
 | []=>false
 | y::r=>aG y x || fB x r
inductive lk(σ:aa)(K:Bool->Prop)(v:PV):PV->Prop
 | di {p d}:σ p=some (.dict d)->DK d v->K (aB d v).isSome->lk σ K v (.ref p)
 | li {p l}:σ p=some (.list l)->plain v=true->plains l=true->aP l<=8->K (fB v l)->lk σ K v (.ref p)
 | tup {l}:plain v=true->plains l=true->aP l<=8->K (fB v l)->lk σ K v (.tup l)
 | str {s s'}:v=.str s'->K (HX s s')->lk σ K v (.str s)
inductive bc(σ:aa)(K:Bool->Prop):Ku->PV->PV->Prop
 | eq {v u}:mV σ K v u->bc σ K .Eq v u
 | ne {v u}:mV σ (λb=>K !b) v u->bc σ K .NotEq v u
 | lt {i j}:K (decide (i < j))->bc σ K .Lt (.int i) (.int j)
 | le {i j}:K (decide (i<=j))->bc σ K .LtE (.int i) (.int j)
 | gt {i j}:K (decide (j < i))->bc σ K .Gt (.int i) (.int j)
 | is {v}:K (aG v .none)->bc σ K .Is v .none
 | isn {v}:K !(aG v .none)->bc σ K .IsNot v .none
 | in_ {v u}:lk σ K v u->bc σ K .In v u
 | ni {v u}:lk σ (λb=>K !b) v u->bc σ K .NotIn v u
inductive PI(P:Int->Prop):PV->Prop
 | mk {i}:P i->PI P (.int i)
inductive PB(P:Bool->Prop):PV->Prop
 | mk {b}:P b->PB P (.bool b)
inductive pF(Q:Bool->Prop):PV->Prop
 | no:Q false->pF Q .none
 | int {i}:Q true->pF Q (.int i)
 | str {s}:Q false->pF Q (.str s)
inductive pW(σ:aa)(Q:PV->aa->Prop):PV->Prop
 | mk {p l}:σ p=some (.list l)->l.length < 60->((a6 l).isSome=true\/∀x∈l,bD x=true)->(∀r:List PV,(∀x,x∈r↔x∈l)->r.length<=l.length->aQ σ (.list r) Q)->pW σ Q (.ref p)
inductive vE(σ:aa)(Q:PV->aa->Prop):PV->Prop
 | mk {p d} (ks vs):σ p=some (.dict d)->a6 (d.map (·.1))=some ks->a6 (d.map (·.2))=some vs->d.length < 64->
  (∀r:List (Int×Int),r.Perm (ks.zip vs)->r.Pairwise (λa b=>a.2<=b.2)->aQ σ (.list (r.map λx=>.int x.1)) Q)->vE σ Q (.ref p)
inductive vF(σ:aa)(Q:aa->Prop)(a:String)(v:PV):PV->Prop
 | mk {p c fs}:σ p=some (.inst c fs)->fs.length < 20->a∈c.attrs->Q (σ.set p (.inst c (dy fs a v)))->vF σ Q a v (.ref p)
inductive vG(σ:aa)(Q:PV->aa->Prop)(ρ:String->Option PV)(d w:String):Prop
 | mk (a b D W):ρ d=some (.ref a)->ρ w=some (.ref b)->σ a=some (.dict D)->σ b=some (.dict W)->D.length < ay->(∃ks,a6 (D.map (·.1))=some ks)->
  (∀kv∈D,DK W kv.1/\DK D kv.1/\aB D kv.1=some kv.2/\plain ((aB W kv.1).getD .none)=true/\aK ((aB W kv.1).getD .none)<=8)->
  aQ σ (.list ((D.filter λkv=>aG ((aB W kv.1).getD .none) (.str (Dy "clash"))).map (·.2))) Q->vG σ Q ρ d w
@[reducible] noncomputable def pX:BoolOp->Bool->Prop->Prop->Prop
 | .And,false,now,_=>now
 | .Or,true,now,_=>now
 | _,_,_,rest=>rest
noncomputable def Tg.bind(t:Tg)(v:PV)(ρ:af):Option af:=match t with
 | .name x _=>some (ρ.put x v)
 | .pair x _ y _ _ _=>(lO v).map λq=>(ρ.put x q.1).put y q.2
inductive gy(σ:aa)(K:(aa->Prop)->List PV->Prop):PV->Prop
 | tup {l}:l.length < ay->K (λ_=>True) l->gy σ K (.tup l)
 | str {s}:s.length < ay->K (λ_=>True) (s.cps.toList.map λc=>.str ⟨#[c]⟩)->gy σ K (.str s)
 | li {p l}:σ p=some (.list l)->l.length < ay->K (λσ'=>σ' p=some (.list l)) l->gy σ K (.ref p)
inductive vH(σ:aa)(K:(aa->Prop)->List PV->Prop):PV->Prop
 | li {p l}:σ p=some (.list l)->l.length < ay->K (λσ'=>σ' p=some (.list l)) (l.zipIdx.map λx=>.tup [.int x.2,x.1])->vH σ K (.ref p)
noncomputable def cn(chk:aa->Prop)(bnd:PV->Option af)(tst:af->aa->(Bool->aa->Prop)->Prop)(elt:af->aa->(PV->aa->Prop)->Prop) :
 List PV->List PV->aa->(List PV->aa->Prop)->Prop
 | [],acc,σ,Q=>chk σ/\Q acc σ
 | x::r,acc,σ,Q=>chk σ/\acc.length < ay/\Ev (bnd x) λρ=>tst ρ σ λb σ1=>if b=true then elt ρ σ1 λv σ2=>cn chk bnd tst elt r (acc ++ [v]) σ2 Q else cn chk bnd tst elt r acc σ1 Q
noncomputable def dJ(chk:aa->Prop)(bnd:PV->Option af)(kv:af->aa->(PV->PV->aa->Prop)->Prop) :
 List PV->List (PV×PV)->aa->(List (PV×PV)->aa->Prop)->Prop
 | [],acc,σ,Q=>chk σ/\Q acc σ
 | x::r,acc,σ,Q=>chk σ/\acc.length < ay/\Ev (bnd x) λρ=>kv ρ σ λk v σ1=>DK acc k/\dJ chk bnd kv r (bB acc k v) σ1 Q
theorem cn.consE{chk:aa->Prop}{bnd:PV->Option af}{tst:af->aa->(Bool->aa->Prop)->Prop}{elt:af->aa->(PV->aa->Prop)->Prop}{x:PV}{r acc:List PV}{σ:aa}{Q:List PV->aa->Prop}{G:Prop}(h:cn chk bnd tst elt (x::r) acc σ Q)
 (k:chk σ->acc.length < ay->∀ρ,bnd x=some ρ->tst ρ σ (λb σ1=>if b=true then elt ρ σ1 λv σ2=>cn chk bnd tst elt r (acc ++ [v]) σ2 Q else cn chk bnd tst elt r acc σ1 Q)->G):G:=h.2.2.casesOn λρ e q=>k h.1 h.2.1 ρ e q
theorem dJ.consE{chk:aa->Prop}{bnd:PV->Option af}{kv:af->aa->(PV->PV->aa->Prop)->Prop}{x:PV}{r:List PV}{acc:List (PV×PV)}{σ:aa}{Q:List (PV×PV)->aa->Prop}{G:Prop}(h:dJ chk bnd kv (x::r) acc σ Q)
 (f:chk σ->acc.length < ay->∀ρ,bnd x=some ρ->kv ρ σ (λk v σ1=>DK acc k/\dJ chk bnd kv r (bB acc k v) σ1 Q)->G):G:=h.2.2.casesOn λρ e q=>f h.1 h.2.1 ρ e q
noncomputable def af.inner(ρ:af)(sc:az):af:=λx=>if sc.lookup x=some .free then ρ x else none
mutual
@[reducible] noncomputable def a8(C:CP)(k:Nat):E->af->aa->(PV->aa->Prop)->Prop
 | .cst c _ _,_,σ,Q=>(match c with | .none=>Q .none σ | .bool b=>Q (.bool b) σ | .int i=>Q (.int i) σ | .str s=>Q (.str s) σ | _=>False)
 | .var x _,ρ,σ,Q=>y7 (ρ x) Q σ
 | .attr e a _,ρ,σ,Q=>a8 C k e ρ σ λv σ1=>y7 (bS σ1 v a) Q σ1
 | .tup es _ _,ρ,σ,Q=>jm C k es ρ σ λvs σ1=>Q (.tup vs) σ1
 | .list es _,ρ,σ,Q=>jm C k es ρ σ λvs σ1=>aQ σ1 (.list vs) Q
 | .dict0 _,_,σ,Q=>aQ σ (.dict []) Q
 | .dict1 a b _,ρ,σ,Q=>a8 C k a ρ σ λx σ1=>a8 C k b ρ σ1 λy σ2=>cY x/\aK x<=8/\aQ σ2 (.dict [(x,y)]) Q
 | .sub e i _,ρ,σ,Q=>a8 C k e ρ σ λv σ1=>a8 C k i ρ σ1 λu σ2=>eg σ2 Q v u
 | .slFrom e n _ _ _,ρ,σ,Q=>a8 C k e ρ σ λv σ1=>0<=n/\n < 1000/\iL σ1 Q n.toNat v
 | .slTo e n _ _ _,ρ,σ,Q=>a8 C k e ρ σ λv σ1=>0<=n/\n < 1000/\pV σ1 Q n.toNat v
 | .bin a op b _,ρ,σ,Q=>a8 C k a ρ σ λv σ1=>a8 C k b ρ σ1 λu σ2=>dr σ2 Q op v u
 | .neg e _,ρ,σ,Q=>a8 C k e ρ σ λv σ1=>PI (λi=>Q (.int (-i)) σ1) v
 | .test t,ρ,σ,Q=>kK C k t ρ σ λb σ1=>Q (.bool b) σ1
 | .ife t a b _,ρ,σ,Q=>kK C k t ρ σ λq σ1=>if q=true then a8 C k a ρ σ1 Q else a8 C k b ρ σ1 Q
 | .bi f _ args _,ρ,σ,Q=>jm C k args ρ σ λvs σ1=>bC σ1 Q f vs
 | .fn f _ args _,ρ,σ,Q=>jm C k args ρ σ λvs σ1=>C k f vs σ1 Q
 | .new c _ args _,ρ,σ,Q=>jm C k args ρ σ λvs σ1=>∃j,k=j+1/\∃p,σ1 p=none/\C j c.init (.ref p::vs) (σ1.set p (.inst c [])) λr σ2=>r=.none/\Q (.ref p) σ2
 | .isInt e _ _ _,ρ,σ,Q=>a8 C k e ρ σ λv σ1=>pF (λb=>Q (.bool b) σ1) v
 | .sortedSet e _ _ _ _,ρ,σ,Q=>a8 C k e ρ σ λv σ1=>pW σ1 Q v
 | .sortedGet d _ _ _ _ _ _,ρ,σ,Q=>y7 (ρ d) (λv σ=>vE σ Q v) σ
 | .meth e m _ args _,ρ,σ,Q=>a8 C k e ρ σ λv σ1=>Ev (ff σ1 v m) λmk=>jm C k args ρ σ1 λvs σ2=>pU C k mk v vs σ2 Q
 | .lcomp elt t it ifs sc _,ρ,σ,Q=>mW C k it ρ σ λchk l σ1=>
  cn chk (λv=>t.bind v (ρ.inner sc)) (λρ' σ' Q'=>iZ C k .And ifs ρ' σ' Q') (λρ' σ' Q'=>a8 C k elt ρ' σ' Q') l [] σ1 λvs σ2=>aQ σ2 (.list vs) Q
 | .dcomp a b t it sc _,ρ,σ,Q=>mW C k it ρ σ λchk l σ1=>
  dJ chk (λv=>t.bind v (ρ.inner sc)) (λρ' σ' Q'=>a8 C k a ρ' σ' λx σ3=>a8 C k b ρ' σ3 λy σ4=>Q' x y σ4) l [] σ1 λd σ2=>aQ σ2 (.dict d) Q
 | .dsel d w _ _ _ _ _ _ _ _ _ _ _ _ _ _,ρ,σ,Q=>vG σ Q ρ d w
 | .fstr pre _ e _ _,ρ,σ,Q=>a8 C k e ρ σ λv σ1=>PI (λi=>i.natAbs < 2 ^ 60/\(Dy pre ++ Dy (toString i)).length < ay/\Q (.str (Dy pre ++ Dy (toString i))) σ1) v
@[reducible] noncomputable def jm(C:CP)(k:Nat):Es->af->aa->(List PV->aa->Prop)->Prop
 | .nil,_,σ,Q=>Q [] σ
 | .cons e es,ρ,σ,Q=>a8 C k e ρ σ λv σ1=>jm C k es ρ σ1 λvs σ2=>Q (v::vs) σ2
@[reducible] noncomputable def kK(C:CP)(k:Nat):T->af->aa->(Bool->aa->Prop)->Prop
 | .val e,ρ,σ,Q=>a8 C k e ρ σ λv σ1=>PB (λb=>Q b σ1) v
 | .not t _,ρ,σ,Q=>kK C k t ρ σ λb σ1=>Q (!b) σ1
 | .bool op ts _,ρ,σ,Q=>iZ C k op ts ρ σ Q
 | .cmp a op b _,ρ,σ,Q=>a8 C k a ρ σ λv σ1=>a8 C k b ρ σ1 λu σ2=>bc σ2 (λr=>Q r σ2) op v u
 | .cmp2 a op b op2 c _,ρ,σ,Q=>a8 C k a ρ σ λv σ1=>a8 C k b ρ σ1 λu σ2=>bc σ2 (λr=>
  if r=true then a8 C k c ρ σ2 λx σ3=>bc σ3 (λr'=>Q r' σ3) op2 u x else Q false σ2) op v u
@[reducible] noncomputable def iZ(C:CP)(k:Nat)(op:BoolOp):Ts->af->aa->(Bool->aa->Prop)->Prop
 | .nil,_,σ,Q=>Q (match op with | .And=>true | .Or=>false) σ
 | .cons t ts,ρ,σ,Q=>kK C k t ρ σ λb σ1=>pX op b (Q b σ1) (iZ C k op ts ρ σ1 Q)
@[reducible] noncomputable def mW(C:CP)(k:Nat):It->af->aa->((aa->Prop)->List PV->aa->Prop)->Prop
 | .e e,ρ,σ,K=>a8 C k e ρ σ λv σ1=>gy σ1 (λchk l=>K chk l σ1) v
 | .range _ e _,ρ,σ,K=>a8 C k e ρ σ λv σ1=>PI (λn=>0<=n/\n < 100000/\K (λ_=>True) ((DV n.toNat).map λ(i:Nat)=>.int i) σ1) v
 | .enum _ e _,ρ,σ,K=>a8 C k e ρ σ λv σ1=>vH σ1 (λchk l=>K chk l σ1) v
end
@[reducible] noncomputable def j6(C:CP)(k:Nat):aT->PV->af->aa->(af->aa->Prop)->Prop
 | .name x _,v,ρ,σ,Q=>Q (ρ.put x v) σ
 | .attr e a _,v,ρ,σ,Q=>a8 C k e ρ σ λo σ1=>vF σ1 (Q ρ) a v o
 | .sub e i _,v,ρ,σ,Q=>a8 C k e ρ σ λo σ1=>a8 C k i ρ σ1 λu σ2=>eh σ2 (Q ρ) v o u
@[reducible] noncomputable def iM(C:CP)(k:Nat):List aT->List PV->af->aa->(af->aa->Prop)->Prop
 | [],[],ρ,σ,Q=>Q ρ σ
 | t::ts,v::vs,ρ,σ,Q=>j6 C k t v ρ σ λρ1 σ1=>iM C k ts vs ρ1 σ1 Q
 | _,_,_,_,_=>False
noncomputable def lP:PO->Option (List PV)
 | .list l=>some l
 | _=>none
noncomputable def pG(σ:aa)(v:PV):Option (List PV):=match v with
 | .tup l=>some l
 | .ref p=>(σ p).bind lP
 | _=>none
noncomputable def gi(chk:aa->Prop)(t:Tg)(body:af->aa->(af->aa->Prop)->(PV->aa->Prop)->Prop):List PV->af->aa->(af->aa->Prop)->(PV->aa->Prop)->Prop
 | [],ρ,σ,Qn,_=>chk σ/\Qn ρ σ
 | x::r,ρ,σ,Qn,Qr=>chk σ/\Ev (t.bind x ρ) λρ'=>body ρ' σ (λρ1 σ1=>gi chk t body r ρ1 σ1 Qn Qr) Qr
noncomputable def j7(tst:af->aa->(Bool->aa->Prop)->Prop)(body:af->aa->(af->aa->Prop)->(PV->aa->Prop)->Prop):Nat->af->aa->(af->aa->Prop)->(PV->aa->Prop)->Prop
 | 0,_,_,_,_=>False
 | n+1,ρ,σ,Qn,Qr=>tst ρ σ λb σ1=>if b=true then body ρ σ1 (λρ1 σ2=>j7 tst body n ρ1 σ2 Qn Qr) Qr else Qn ρ σ1
theorem gi.consE{chk:aa->Prop}{t:Tg}{body:af->aa->(af->aa->Prop)->(PV->aa->Prop)->Prop}{x:PV}{r:List PV}{ρ:af}{σ:aa}{Qn:af->aa->Prop}{Qr:PV->aa->Prop}{G:Prop}(h:gi chk t body (x::r) ρ σ Qn Qr)
 (k:chk σ->∀ρ',t.bind x ρ=some ρ'->body ρ' σ (λρ1 σ1=>gi chk t body r ρ1 σ1 Qn Qr) Qr->G):G:=h.2.casesOn λρ' e q=>k h.1 ρ' e q
mutual
@[reducible] noncomputable def C7(C:CP)(k:Nat):S->af->aa->(af->aa->Prop)->(PV->aa->Prop)->Prop
 | .asg t e _,ρ,σ,Qn,_=>a8 C k e ρ σ λv σ1=>j6 C k t v ρ σ1 Qn
 | .asgs ts _ _ e _,ρ,σ,Qn,_=>a8 C k e ρ σ λv σ1=>Ev (pG σ1 v) λl=>l.length=ts.length/\iM C k ts l ρ σ1 Qn
 | .expr e _,ρ,σ,Qn,_=>a8 C k e ρ σ λ_ σ1=>Qn ρ σ1
 | .ret e _,ρ,σ,_,Qr=>a8 C k e ρ σ Qr
 | .ite c a b _,ρ,σ,Qn,Qr=>kK C k c ρ σ λq σ1=>if q=true then eC C k a ρ σ1 Qn Qr else eC C k b ρ σ1 Qn Qr
 | .while c b _,ρ,σ,Qn,Qr=>∃n,j7 (λρ' σ' Q'=>kK C k c ρ' σ' Q') (λρ' σ' Qn' Qr'=>eC C k b ρ' σ' Qn' Qr') n ρ σ Qn Qr
 | .for t it b _,ρ,σ,Qn,Qr=>mW C k it ρ σ λchk l σ1=>gi chk t (λρ' σ' Qn' Qr'=>eC C k b ρ' σ' Qn' Qr') l ρ σ1 Qn Qr
 | .raise _,_,_,_,_=>False
@[reducible] noncomputable def eC(C:CP)(k:Nat):Ss->af->aa->(af->aa->Prop)->(PV->aa->Prop)->Prop
 | .nil,ρ,σ,Qn,_=>Qn ρ σ
 | .cons s ss,ρ,σ,Qn,Qr=>C7 C k s ρ σ (λρ1 σ1=>eC C k ss ρ1 σ1 Qn Qr) Qr
end
noncomputable def AP:Stmt:=
 (PySem.Stmt.Raise (exc:=(some (LG (func:=(IL (Dy "TermFault") ⟨127,22,127,31⟩)) (args:=[(Kb (values:=[(Ko (PySem.Const.str (Dy "no term has the number ")) 0 ⟨127,34,127,57⟩),(Jl (IL (Dy "kid") ⟨127,58,127,61⟩) (-1) none ⟨127,57,127,62⟩)]) (pos:=⟨127,32,127,63⟩))]) (keywords:=[]) (pos:=⟨127,22,127,64⟩)))) (cause:=none) (pos:=⟨127,16,127,64⟩))
noncomputable def AQ:Stmt:=
 (PySem.Stmt.Raise (exc:=(some (LG (func:=(IL (Dy "TermFault") ⟨136,18,136,27⟩)) (args:=[(Kb (values:=[(Jl (IL (Dy "op") ⟨136,31,136,33⟩) (-1) none ⟨136,30,136,34⟩),(Ko (PySem.Const.str (Dy " is no op of a ground term")) 0 ⟨136,34,136,60⟩)]) (pos:=⟨136,28,136,61⟩))]) (keywords:=[]) (pos:=⟨136,18,136,62⟩)))) (cause:=none) (pos:=⟨136,12,136,62⟩))
@[reducible] noncomputable def oV:Ss:=
 (.cons (.asg (.name "digits" ⟨6,4,6,10⟩) (.ife (.cmp (.slTo (.var "op" ⟨6,23,6,25⟩) 1 ⟨6,27,6,28⟩ ⟨6,26,6,28⟩ ⟨6,23,6,29⟩) .Eq (.cst (.str (Dy "-")) 0 ⟨6,33,6,36⟩) ⟨6,23,6,36⟩) (.slFrom (.var "op" ⟨6,13,6,15⟩) 1 ⟨6,16,6,17⟩ ⟨6,16,6,18⟩ ⟨6,13,6,19⟩) (.var "op" ⟨6,42,6,44⟩) ⟨6,13,6,44⟩) ⟨6,4,6,44⟩)
 (.cons (.ite (.bool .Or (.cons (.not (.cmp2 (.cst (.int 0) 0 ⟨7,11,7,12⟩) .Lt (.bi .len ⟨7,15,7,18⟩ (.cons (.var "digits" ⟨7,19,7,25⟩) .nil) ⟨7,15,7,26⟩) .LtE (.cst (.int 1000) 0 ⟨7,30,7,34⟩) ⟨7,11,7,34⟩) ⟨7,7,7,34⟩) (.cons (.cmp (.lcomp (.var "sign" ⟨7,39,7,43⟩) (.name "sign" ⟨7,48,7,52⟩) (.e (.var "digits" ⟨7,56,7,62⟩)) (.cons (.cmp (.var "sign" ⟨7,66,7,70⟩) .NotIn (.cst (.str (Dy "0123456789")) 0 ⟨7,78,7,90⟩) ⟨7,66,7,90⟩) .nil) [(".0",.«local»),("sign",.«local»)] ⟨7,38,7,91⟩) .NotEq (.list .nil ⟨7,95,7,97⟩) ⟨7,38,7,97⟩) .nil)) ⟨7,7,7,97⟩)
  (.cons (.ret (.cst .none 0 ⟨8,15,8,19⟩) ⟨8,8,8,19⟩)
 .nil)
  .nil ⟨7,4,8,19⟩)
 (.cons (.ret (.bi .int ⟨9,11,9,14⟩ (.cons (.var "op" ⟨9,15,9,17⟩) .nil) ⟨9,11,9,18⟩) ⟨9,4,9,18⟩)
 .nil)))
@[reducible] noncomputable def rG:Ss:=
 (.cons (.asg (.attr (.var "self" ⟨13,8,13,12⟩) "n" ⟨13,8,13,14⟩) (.var "n" ⟨13,17,13,18⟩) ⟨13,8,13,18⟩)
 .nil)
@[reducible] noncomputable def mX:Ss:=
 (.cons (.ite (.cmp (.bi .len ⟨16,11,16,14⟩ (.cons (.var "values" ⟨16,15,16,21⟩) .nil) ⟨16,11,16,22⟩) .Eq (.cst (.int 0) 0 ⟨16,26,16,27⟩) ⟨16,11,16,27⟩)
  (.cons (.asg (.name "number" ⟨17,12,17,18⟩) (.fn .whole_of ⟨17,21,17,29⟩ (.cons (.var "op" ⟨17,30,17,32⟩) .nil) ⟨17,21,17,33⟩) ⟨17,12,17,33⟩)
 (.cons (.ret (.ife (.cmp (.var "number" ⟨18,27,18,33⟩) .Is (.cst .none 0 ⟨18,37,18,41⟩) ⟨18,27,18,41⟩) (.cst .none 0 ⟨18,19,18,23⟩) (.bin (.var "number" ⟨18,47,18,53⟩) .Mod (.attr (.var "self" ⟨18,56,18,60⟩) "n" ⟨18,56,18,62⟩) ⟨18,47,18,62⟩) ⟨18,19,18,62⟩) ⟨18,12,18,62⟩)
 .nil))
  .nil ⟨16,8,18,62⟩)
 (.cons (.ite (.bool .Or (.cons (.cmp (.cst .none 0 ⟨19,11,19,15⟩) .In (.var "values" ⟨19,19,19,25⟩) ⟨19,11,19,25⟩) (.cons (.cmp (.tup (.cons (.var "op" ⟨19,30,19,32⟩) (.cons (.bi .len ⟨19,34,19,37⟩ (.cons (.var "values" ⟨19,38,19,44⟩) .nil) ⟨19,34,19,45⟩) .nil)) 0 ⟨19,29,19,46⟩) .NotIn (.tup (.cons (.tup (.cons (.cst (.str (Dy "add")) 0 ⟨19,56,19,61⟩) (.cons (.cst (.int 2) 0 ⟨19,63,19,64⟩) .nil)) 0 ⟨19,55,19,65⟩) (.cons (.tup (.cons (.cst (.str (Dy "mul")) 0 ⟨19,68,19,73⟩) (.cons (.cst (.int 2) 0 ⟨19,75,19,76⟩) .nil)) 0 ⟨19,67,19,77⟩) (.cons (.tup (.cons (.cst (.str (Dy "neg")) 0 ⟨19,80,19,85⟩) (.cons (.cst (.int 1) 0 ⟨19,87,19,88⟩) .nil)) 0 ⟨19,79,19,89⟩) .nil))) 0 ⟨19,54,19,90⟩) ⟨19,29,19,90⟩) .nil)) ⟨19,11,19,90⟩)
  (.cons (.ret (.cst .none 0 ⟨20,19,20,23⟩) ⟨20,12,20,23⟩)
 .nil)
  .nil ⟨19,8,20,23⟩)
 (.cons (.ite (.cmp (.cst (.str (Dy "clash")) 0 ⟨21,11,21,18⟩) .In (.var "values" ⟨21,22,21,28⟩) ⟨21,11,21,28⟩)
  (.cons (.ret (.cst (.str (Dy "clash")) 0 ⟨22,19,22,26⟩) ⟨22,12,22,26⟩)
 .nil)
  .nil ⟨21,8,22,26⟩)
 (.cons (.ite (.cmp (.var "op" ⟨23,11,23,13⟩) .Eq (.cst (.str (Dy "neg")) 0 ⟨23,17,23,22⟩) ⟨23,11,23,22⟩)
  (.cons (.ret (.bin (.neg (.sub (.var "values" ⟨24,20,24,26⟩) (.cst (.int 0) 0 ⟨24,27,24,28⟩) ⟨24,20,24,29⟩) ⟨24,19,24,29⟩) .Mod (.attr (.var "self" ⟨24,32,24,36⟩) "n" ⟨24,32,24,38⟩) ⟨24,19,24,38⟩) ⟨24,12,24,38⟩)
 .nil)
  .nil ⟨23,8,24,38⟩)
 (.cons (.ret (.bin (.ife (.cmp (.var "op" ⟨25,41,25,43⟩) .Eq (.cst (.str (Dy "add")) 0 ⟨25,47,25,52⟩) ⟨25,41,25,52⟩) (.bin (.sub (.var "values" ⟨25,16,25,22⟩) (.cst (.int 0) 0 ⟨25,23,25,24⟩) ⟨25,16,25,25⟩) .Add (.sub (.var "values" ⟨25,28,25,34⟩) (.cst (.int 1) 0 ⟨25,35,25,36⟩) ⟨25,28,25,37⟩) ⟨25,16,25,37⟩) (.bin (.sub (.var "values" ⟨25,58,25,64⟩) (.cst (.int 0) 0 ⟨25,65,25,66⟩) ⟨25,58,25,67⟩) .Mult (.sub (.var "values" ⟨25,70,25,76⟩) (.cst (.int 1) 0 ⟨25,77,25,78⟩) ⟨25,70,25,79⟩) ⟨25,58,25,79⟩) ⟨25,16,25,79⟩) .Mod (.attr (.var "self" ⟨25,83,25,87⟩) "n" ⟨25,83,25,89⟩) ⟨25,15,25,89⟩) ⟨25,8,25,89⟩)
 .nil)))))
@[reducible] noncomputable def oW:Ss:=
 (.cons (.ite (.bool .Or (.cons (.cmp (.var "one" ⟨28,11,28,14⟩) .Is (.cst .none 0 ⟨28,18,28,22⟩) ⟨28,11,28,22⟩) (.cons (.cmp (.var "one" ⟨28,26,28,29⟩) .Eq (.var "other" ⟨28,33,28,38⟩) ⟨28,26,28,38⟩) .nil)) ⟨28,11,28,38⟩)
  (.cons (.ret (.var "other" ⟨29,19,29,24⟩) ⟨29,12,29,24⟩)
 .nil)
  .nil ⟨28,8,29,24⟩)
 (.cons (.ret (.ife (.cmp (.var "other" ⟨30,22,30,27⟩) .Is (.cst .none 0 ⟨30,31,30,35⟩) ⟨30,22,30,35⟩) (.var "one" ⟨30,15,30,18⟩) (.cst (.str (Dy "clash")) 0 ⟨30,41,30,48⟩) ⟨30,15,30,48⟩) ⟨30,8,30,48⟩)
 .nil))
@[reducible] noncomputable def rH:Ss:=
 (.cons (.asg (.attr (.var "self" ⟨34,8,34,12⟩) "heap" ⟨34,8,34,17⟩) (.var "heap" ⟨34,20,34,24⟩) ⟨34,8,34,24⟩)
 (.cons (.asg (.attr (.var "self" ⟨35,8,35,12⟩) "analysis" ⟨35,8,35,21⟩) (.var "analysis" ⟨35,24,35,32⟩) ⟨35,8,35,32⟩)
 (.cons (.asg (.attr (.var "self" ⟨36,8,36,12⟩) "values" ⟨36,8,36,19⟩) (.dict0 ⟨36,22,36,24⟩) ⟨36,8,36,24⟩)
 (.cons (.asg (.attr (.var "self" ⟨37,8,37,12⟩) "told" ⟨37,8,37,17⟩) (.dict0 ⟨37,20,37,22⟩) ⟨37,8,37,22⟩)
 .nil))))
@[reducible] noncomputable def pY:Ss:=
 (.cons (.ret (.meth (.attr (.var "self" ⟨40,15,40,19⟩) "values" ⟨40,15,40,26⟩) "get" ⟨40,15,40,30⟩ (.cons (.meth (.attr (.var "self" ⟨40,31,40,35⟩) "heap" ⟨40,31,40,40⟩) "find" ⟨40,31,40,45⟩ (.cons (.var "c" ⟨40,46,40,47⟩) .nil) ⟨40,31,40,48⟩) .nil) ⟨40,15,40,49⟩) ⟨40,8,40,49⟩)
 .nil)
@[reducible] noncomputable def pZ:Ss:=
 (.cons (.asg (.name "found" ⟨43,8,43,13⟩) (.dict0 ⟨43,16,43,18⟩) ⟨43,8,43,18⟩)
 (.cons (.for (.name "c" ⟨44,12,44,13⟩) (.e (.bi .sorted ⟨44,17,44,23⟩ (.cons (.attr (.var "self" ⟨44,24,44,28⟩) "values" ⟨44,24,44,35⟩) .nil) ⟨44,17,44,36⟩))
  (.cons (.asg (.name "kept" ⟨45,12,45,16⟩) (.meth (.attr (.var "self" ⟨45,19,45,23⟩) "heap" ⟨45,19,45,28⟩) "find" ⟨45,19,45,33⟩ (.cons (.var "c" ⟨45,34,45,35⟩) .nil) ⟨45,19,45,36⟩) ⟨45,12,45,36⟩)
 (.cons (.asg (.sub (.var "found" ⟨46,12,46,17⟩) (.var "kept" ⟨46,18,46,22⟩) ⟨46,12,46,23⟩) (.meth (.attr (.var "self" ⟨46,26,46,30⟩) "analysis" ⟨46,26,46,39⟩) "joined" ⟨46,26,46,46⟩ (.cons (.meth (.var "found" ⟨46,47,46,52⟩) "get" ⟨46,47,46,56⟩ (.cons (.var "kept" ⟨46,57,46,61⟩) .nil) ⟨46,47,46,62⟩) (.cons (.sub (.attr (.var "self" ⟨46,64,46,68⟩) "values" ⟨46,64,46,75⟩) (.var "c" ⟨46,76,46,77⟩) ⟨46,64,46,78⟩) .nil)) ⟨46,26,46,79⟩) ⟨46,12,46,79⟩)
 .nil)) ⟨44,8,46,79⟩)
 (.cons (.asg (.attr (.var "self" ⟨47,8,47,12⟩) "values" ⟨47,8,47,19⟩) (.var "found" ⟨47,22,47,27⟩) ⟨47,8,47,27⟩)
 .nil)))
@[reducible] noncomputable def lQ:Ss:=
 (.cons (.asg (.name "found" ⟨50,8,50,13⟩) (.meth (.attr (.var "self" ⟨50,16,50,20⟩) "values" ⟨50,16,50,27⟩) "get" ⟨50,16,50,31⟩ (.cons (.var "c" ⟨50,32,50,33⟩) .nil) ⟨50,16,50,34⟩) ⟨50,8,50,34⟩)
 (.cons (.for (.name "node" ⟨51,12,51,16⟩) (.e (.meth (.attr (.var "self" ⟨51,20,51,24⟩) "heap" ⟨51,20,51,29⟩) "nodes_of" ⟨51,20,51,38⟩ (.cons (.var "c" ⟨51,39,51,40⟩) .nil) ⟨51,20,51,41⟩))
  (.cons (.asg (.name "kids" ⟨52,12,52,16⟩) (.lcomp (.meth (.attr (.var "self" ⟨52,20,52,24⟩) "values" ⟨52,20,52,31⟩) "get" ⟨52,20,52,35⟩ (.cons (.var "kid" ⟨52,36,52,39⟩) .nil) ⟨52,20,52,40⟩) (.name "kid" ⟨52,45,52,48⟩) (.e (.slFrom (.var "node" ⟨52,52,52,56⟩) 1 ⟨52,57,52,58⟩ ⟨52,57,52,59⟩ ⟨52,52,52,60⟩)) .nil [(".0",.«local»),("kid",.«local»),("self",.free)] ⟨52,19,52,61⟩) ⟨52,12,52,61⟩)
 (.cons (.asg (.name "found" ⟨53,12,53,17⟩) (.meth (.attr (.var "self" ⟨53,20,53,24⟩) "analysis" ⟨53,20,53,33⟩) "joined" ⟨53,20,53,40⟩ (.cons (.var "found" ⟨53,41,53,46⟩) (.cons (.meth (.attr (.var "self" ⟨53,48,53,52⟩) "analysis" ⟨53,48,53,61⟩) "of_node" ⟨53,48,53,69⟩ (.cons (.sub (.var "node" ⟨53,70,53,74⟩) (.cst (.int 0) 0 ⟨53,75,53,76⟩) ⟨53,70,53,77⟩) (.cons (.var "kids" ⟨53,79,53,83⟩) .nil)) ⟨53,48,53,84⟩) .nil)) ⟨53,20,53,85⟩) ⟨53,12,53,85⟩)
 .nil)) ⟨51,8,53,85⟩)
 (.cons (.ret (.var "found" ⟨54,15,54,20⟩) ⟨54,8,54,20⟩)
 .nil)))
@[reducible] noncomputable def oZ:Ss:=
 (.cons (.expr (.meth (.var "self" ⟨57,8,57,12⟩) "begun" ⟨57,8,57,18⟩ .nil ⟨57,8,57,20⟩) ⟨57,8,57,20⟩)
 (.cons (.asg (.name "row" ⟨58,8,58,11⟩) (.bi .list ⟨58,14,58,18⟩ (.cons (.meth (.attr (.var "self" ⟨58,19,58,23⟩) "heap" ⟨58,19,58,28⟩) "classes" ⟨58,19,58,36⟩ .nil ⟨58,19,58,38⟩) .nil) ⟨58,14,58,39⟩) ⟨58,8,58,39⟩)
 (.cons (.asg (.name "waiting" ⟨59,8,59,15⟩) (.dcomp (.var "c" ⟨59,19,59,20⟩) (.cst (.bool true) 0 ⟨59,22,59,26⟩) (.name "c" ⟨59,31,59,32⟩) (.e (.var "row" ⟨59,36,59,39⟩)) [(".0",.«local»),("c",.«local»)] ⟨59,18,59,40⟩) ⟨59,8,59,40⟩)
 (.cons (.asg (.name "spot" ⟨60,8,60,12⟩) (.cst (.int 0) 0 ⟨60,15,60,16⟩) ⟨60,8,60,16⟩)
 (.cons (.while (.cmp (.var "spot" ⟨61,14,61,18⟩) .Lt (.bi .len ⟨61,21,61,24⟩ (.cons (.var "row" ⟨61,25,61,28⟩) .nil) ⟨61,21,61,29⟩) ⟨61,14,61,29⟩)
  (.cons (.asgs [(.name "c" ⟨62,12,62,13⟩),(.name "spot" ⟨62,15,62,19⟩)] 0 ⟨62,12,62,19⟩ (.tup (.cons (.sub (.var "row" ⟨62,23,62,26⟩) (.var "spot" ⟨62,27,62,31⟩) ⟨62,23,62,32⟩) (.cons (.bin (.var "spot" ⟨62,34,62,38⟩) .Add (.cst (.int 1) 0 ⟨62,41,62,42⟩) ⟨62,34,62,42⟩) .nil)) 0 ⟨62,22,62,43⟩) ⟨62,12,62,43⟩)
 (.cons (.expr (.meth (.var "waiting" ⟨63,12,63,19⟩) "pop" ⟨63,12,63,23⟩ (.cons (.var "c" ⟨63,24,63,25⟩) .nil) ⟨63,12,63,26⟩) ⟨63,12,63,26⟩)
 (.cons (.asg (.name "found" ⟨64,12,64,17⟩) (.meth (.var "self" ⟨64,20,64,24⟩) "reckoned" ⟨64,20,64,33⟩ (.cons (.var "c" ⟨64,34,64,35⟩) .nil) ⟨64,20,64,36⟩) ⟨64,12,64,36⟩)
 (.cons (.ite (.cmp (.var "found" ⟨65,15,65,20⟩) .NotEq (.meth (.attr (.var "self" ⟨65,24,65,28⟩) "values" ⟨65,24,65,35⟩) "get" ⟨65,24,65,39⟩ (.cons (.var "c" ⟨65,40,65,41⟩) .nil) ⟨65,24,65,42⟩) ⟨65,15,65,42⟩)
  (.cons (.asg (.sub (.attr (.var "self" ⟨66,16,66,20⟩) "values" ⟨66,16,66,27⟩) (.var "c" ⟨66,28,66,29⟩) ⟨66,16,66,30⟩) (.var "found" ⟨66,33,66,38⟩) ⟨66,16,66,38⟩)
 (.cons (.for (.name "user" ⟨67,20,67,24⟩) (.e (.meth (.attr (.var "self" ⟨67,28,67,32⟩) "heap" ⟨67,28,67,37⟩) "users" ⟨67,28,67,43⟩ (.cons (.var "c" ⟨67,44,67,45⟩) .nil) ⟨67,28,67,46⟩))
  (.cons (.asg (.name "late" ⟨68,20,68,24⟩) (.meth (.attr (.var "self" ⟨68,27,68,31⟩) "heap" ⟨68,27,68,36⟩) "find" ⟨68,27,68,41⟩ (.cons (.var "user" ⟨68,42,68,46⟩) .nil) ⟨68,27,68,47⟩) ⟨68,20,68,47⟩)
 (.cons (.ite (.cmp (.var "late" ⟨69,23,69,27⟩) .NotIn (.var "waiting" ⟨69,35,69,42⟩) ⟨69,23,69,42⟩)
  (.cons (.asg (.sub (.var "waiting" ⟨70,24,70,31⟩) (.var "late" ⟨70,32,70,36⟩) ⟨70,24,70,37⟩) (.cst (.bool true) 0 ⟨70,40,70,44⟩) ⟨70,24,70,44⟩)
 (.cons (.expr (.meth (.var "row" ⟨71,24,71,27⟩) "append" ⟨71,24,71,34⟩ (.cons (.var "late" ⟨71,35,71,39⟩) .nil) ⟨71,24,71,40⟩) ⟨71,24,71,40⟩)
 .nil))
  .nil ⟨69,20,71,40⟩)
 .nil)) ⟨67,16,71,40⟩)
 .nil))
  .nil ⟨65,12,71,40⟩)
 .nil)))) ⟨61,8,71,40⟩)
 .nil)))))
@[reducible] noncomputable def mY:Ss:=
 (.cons (.ret (.lcomp (.var "c" ⟨74,16,74,17⟩) (.name "c" ⟨74,22,74,23⟩) (.e (.meth (.attr (.var "self" ⟨74,27,74,31⟩) "heap" ⟨74,27,74,36⟩) "classes" ⟨74,27,74,44⟩ .nil ⟨74,27,74,46⟩)) (.cons (.cmp (.meth (.attr (.var "self" ⟨74,50,74,54⟩) "values" ⟨74,50,74,61⟩) "get" ⟨74,50,74,65⟩ (.cons (.var "c" ⟨74,66,74,67⟩) .nil) ⟨74,50,74,68⟩) .Eq (.cst (.str (Dy "clash")) 0 ⟨74,72,74,79⟩) ⟨74,50,74,79⟩) .nil) [(".0",.«local»),("c",.«local»),("self",.free)] ⟨74,15,74,80⟩) ⟨74,8,74,80⟩)
 .nil)
@[reducible] noncomputable def rI:Ss:=
 (.cons (.asg (.name "many" ⟨77,8,77,12⟩) (.cst (.int 0) 0 ⟨77,15,77,16⟩) ⟨77,8,77,16⟩)
 (.cons (.for (.name "c" ⟨78,12,78,13⟩) (.e (.meth (.attr (.var "self" ⟨78,17,78,21⟩) "heap" ⟨78,17,78,26⟩) "classes" ⟨78,17,78,34⟩ .nil ⟨78,17,78,36⟩))
  (.cons (.asg (.name "value" ⟨79,12,79,17⟩) (.meth (.var "self" ⟨79,20,79,24⟩) "value" ⟨79,20,79,30⟩ (.cons (.var "c" ⟨79,31,79,32⟩) .nil) ⟨79,20,79,33⟩) ⟨79,12,79,33⟩)
 (.cons (.ite (.val (.isInt (.var "value" ⟨80,26,80,31⟩) ⟨80,15,80,25⟩ ⟨80,33,80,36⟩ ⟨80,15,80,37⟩))
  (.cons (.asg (.name "number" ⟨81,16,81,22⟩) (.meth (.attr (.var "self" ⟨81,25,81,29⟩) "heap" ⟨81,25,81,34⟩) "put" ⟨81,25,81,38⟩ (.cons (.tup (.cons (.bi .str ⟨81,40,81,43⟩ (.cons (.var "value" ⟨81,44,81,49⟩) .nil) ⟨81,40,81,50⟩) .nil) 0 ⟨81,39,81,52⟩) .nil) ⟨81,25,81,53⟩) ⟨81,16,81,53⟩)
 (.cons (.ite (.not (.val (.meth (.attr (.var "self" ⟨82,23,82,27⟩) "heap" ⟨82,23,82,32⟩) "are_like" ⟨82,23,82,41⟩ (.cons (.var "c" ⟨82,42,82,43⟩) (.cons (.var "number" ⟨82,45,82,51⟩) .nil)) ⟨82,23,82,52⟩)) ⟨82,19,82,52⟩)
  (.cons (.asg (.name "label" ⟨83,20,83,25⟩) (.fstr "fold" ⟨83,30,83,34⟩ (.bi .len ⟨83,35,83,38⟩ (.cons (.attr (.var "self" ⟨83,39,83,43⟩) "told" ⟨83,39,83,48⟩) .nil) ⟨83,35,83,49⟩) ⟨83,34,83,50⟩ ⟨83,28,83,51⟩) ⟨83,20,83,51⟩)
 (.cons (.asg (.sub (.attr (.var "self" ⟨84,20,84,24⟩) "told" ⟨84,20,84,29⟩) (.var "label" ⟨84,30,84,35⟩) ⟨84,20,84,36⟩) (.tup (.cons (.meth (.attr (.attr (.var "self" ⟨84,40,84,44⟩) "heap" ⟨84,40,84,49⟩) "bank" ⟨84,40,84,54⟩) "term" ⟨84,40,84,59⟩ (.cons (.var "c" ⟨84,60,84,61⟩) .nil) ⟨84,40,84,62⟩) (.cons (.tup (.cons (.bi .str ⟨84,65,84,68⟩ (.cons (.var "value" ⟨84,69,84,74⟩) .nil) ⟨84,65,84,75⟩) .nil) 0 ⟨84,64,84,77⟩) .nil)) 0 ⟨84,39,84,78⟩) ⟨84,20,84,78⟩)
 (.cons (.expr (.meth (.attr (.var "self" ⟨85,20,85,24⟩) "heap" ⟨85,20,85,29⟩) "merge" ⟨85,20,85,35⟩ (.cons (.var "c" ⟨85,36,85,37⟩) (.cons (.var "number" ⟨85,39,85,45⟩) (.cons (.tup (.cons (.cst (.str (Dy "told")) 0 ⟨85,48,85,54⟩) (.cons (.var "label" ⟨85,56,85,61⟩) .nil)) 0 ⟨85,47,85,62⟩) .nil))) ⟨85,20,85,63⟩) ⟨85,20,85,63⟩)
 (.cons (.asg (.name "many" ⟨86,20,86,24⟩) (.bin (.var "many" ⟨86,27,86,31⟩) .Add (.cst (.int 1) 0 ⟨86,34,86,35⟩) ⟨86,27,86,35⟩) ⟨86,20,86,35⟩)
 .nil))))
  .nil ⟨82,16,86,35⟩)
 .nil))
  .nil ⟨80,12,86,35⟩)
 .nil)) ⟨78,8,86,35⟩)
 (.cons (.expr (.meth (.attr (.var "self" ⟨87,8,87,12⟩) "heap" ⟨87,8,87,17⟩) "settle" ⟨87,8,87,24⟩ .nil ⟨87,8,87,26⟩) ⟨87,8,87,26⟩)
 (.cons (.expr (.meth (.var "self" ⟨88,8,88,12⟩) "settle" ⟨88,8,88,19⟩ .nil ⟨88,8,88,21⟩) ⟨88,8,88,21⟩)
 (.cons (.ret (.var "many" ⟨89,15,89,19⟩) ⟨89,8,89,19⟩)
 .nil)))))
@[reducible] noncomputable def tQ:Ss:=
 (.cons (.ret (.test (.bool .And (.cons (.cmp (.var "text" ⟨103,11,103,15⟩) .NotEq (.cst (.str (Dy "")) 0 ⟨103,19,103,21⟩) ⟨103,11,103,21⟩) (.cons (.cmp (.lcomp (.var "sign" ⟨103,27,103,31⟩) (.name "sign" ⟨103,36,103,40⟩) (.e (.var "text" ⟨103,44,103,48⟩)) (.cons (.bool .Or (.cons (.val (.meth (.var "sign" ⟨103,52,103,56⟩) "isspace" ⟨103,52,103,64⟩ .nil ⟨103,52,103,66⟩)) (.cons (.cmp (.var "sign" ⟨103,70,103,74⟩) .In (.cst (.str (Dy "()[]{},:")) 0 ⟨103,78,103,88⟩) ⟨103,70,103,88⟩) .nil)) ⟨103,52,103,88⟩) .nil) [(".0",.«local»),("sign",.«local»)] ⟨103,26,103,89⟩) .Eq (.list .nil ⟨103,93,103,95⟩) ⟨103,26,103,95⟩) .nil)) ⟨103,11,103,95⟩)) ⟨103,4,103,95⟩)
 .nil)
@[reducible] noncomputable def rJ:Ss:=
 (.cons (.asg (.attr (.var "self" ⟨112,8,112,12⟩) "nodes" ⟨112,8,112,18⟩) (.list .nil ⟨112,21,112,23⟩) ⟨112,8,112,23⟩)
 (.cons (.asg (.attr (.var "self" ⟨113,8,113,12⟩) "numbers" ⟨113,8,113,20⟩) (.dict0 ⟨113,23,113,25⟩) ⟨113,8,113,25⟩)
 (.cons (.asg (.attr (.var "self" ⟨114,8,114,12⟩) "weights" ⟨114,8,114,20⟩) (.list .nil ⟨114,23,114,25⟩) ⟨114,8,114,25⟩)
 (.cons (.asg (.attr (.var "self" ⟨115,8,115,12⟩) "depths" ⟨115,8,115,19⟩) (.list .nil ⟨115,22,115,24⟩) ⟨115,8,115,24⟩)
 .nil))))
@[reducible] noncomputable def rK:Ss:=
 (.cons (.ret (.bi .len ⟨118,15,118,18⟩ (.cons (.attr (.var "self" ⟨118,19,118,23⟩) "nodes" ⟨118,19,118,29⟩) .nil) ⟨118,15,118,30⟩) ⟨118,8,118,30⟩)
 .nil)
@[reducible] noncomputable def rL:Ss:=
 (.cons (.asg (.name "node" ⟨121,8,121,12⟩) (.bin (.tup (.cons (.var "op" ⟨121,16,121,18⟩) .nil) 0 ⟨121,15,121,20⟩) .Add (.bi .tuple ⟨121,23,121,28⟩ (.cons (.var "kids" ⟨121,29,121,33⟩) .nil) ⟨121,23,121,34⟩) ⟨121,15,121,34⟩) ⟨121,8,121,34⟩)
 (.cons (.ite (.cmp (.var "node" ⟨122,11,122,15⟩) .In (.attr (.var "self" ⟨122,19,122,23⟩) "numbers" ⟨122,19,122,31⟩) ⟨122,11,122,31⟩)
  (.cons (.ret (.sub (.attr (.var "self" ⟨123,19,123,23⟩) "numbers" ⟨123,19,123,31⟩) (.var "node" ⟨123,32,123,36⟩) ⟨123,19,123,37⟩) ⟨123,12,123,37⟩)
 .nil)
  .nil ⟨122,8,123,37⟩)
 (.cons (.expr (.meth (.var "self" ⟨124,8,124,12⟩) "require" ⟨124,8,124,20⟩ (.cons (.var "op" ⟨124,21,124,23⟩) .nil) ⟨124,8,124,24⟩) ⟨124,8,124,24⟩)
 (.cons (.for (.name "kid" ⟨125,12,125,15⟩) (.e (.slFrom (.var "node" ⟨125,19,125,23⟩) 1 ⟨125,24,125,25⟩ ⟨125,24,125,26⟩ ⟨125,19,125,27⟩))
  (.cons (.ite (.not (.cmp2 (.cst (.int 0) 0 ⟨126,19,126,20⟩) .LtE (.var "kid" ⟨126,24,126,27⟩) .Lt (.bi .len ⟨126,30,126,33⟩ (.cons (.attr (.var "self" ⟨126,34,126,38⟩) "nodes" ⟨126,34,126,44⟩) .nil) ⟨126,30,126,45⟩) ⟨126,19,126,45⟩) ⟨126,15,126,45⟩)
  (.cons (.raise AP)
 .nil)
  .nil ⟨126,12,127,64⟩)
 .nil) ⟨125,8,127,64⟩)
 (.cons (.asg (.sub (.attr (.var "self" ⟨128,8,128,12⟩) "numbers" ⟨128,8,128,20⟩) (.var "node" ⟨128,21,128,25⟩) ⟨128,8,128,26⟩) (.bi .len ⟨128,29,128,32⟩ (.cons (.attr (.var "self" ⟨128,33,128,37⟩) "nodes" ⟨128,33,128,43⟩) .nil) ⟨128,29,128,44⟩) ⟨128,8,128,44⟩)
 (.cons (.expr (.meth (.attr (.var "self" ⟨129,8,129,12⟩) "nodes" ⟨129,8,129,18⟩) "append" ⟨129,8,129,25⟩ (.cons (.var "node" ⟨129,26,129,30⟩) .nil) ⟨129,8,129,31⟩) ⟨129,8,129,31⟩)
 (.cons (.expr (.meth (.attr (.var "self" ⟨130,8,130,12⟩) "weights" ⟨130,8,130,20⟩) "append" ⟨130,8,130,27⟩ (.cons (.bin (.cst (.int 1) 0 ⟨130,28,130,29⟩) .Add (.bi .sum ⟨130,32,130,35⟩ (.cons (.lcomp (.sub (.attr (.var "self" ⟨130,37,130,41⟩) "weights" ⟨130,37,130,49⟩) (.var "kid" ⟨130,50,130,53⟩) ⟨130,37,130,54⟩) (.name "kid" ⟨130,59,130,62⟩) (.e (.slFrom (.var "node" ⟨130,66,130,70⟩) 1 ⟨130,71,130,72⟩ ⟨130,71,130,73⟩ ⟨130,66,130,74⟩)) .nil [(".0",.«local»),("kid",.«local»),("self",.free)] ⟨130,36,130,75⟩) .nil) ⟨130,32,130,76⟩) ⟨130,28,130,76⟩) .nil) ⟨130,8,130,77⟩) ⟨130,8,130,77⟩)
 (.cons (.expr (.meth (.attr (.var "self" ⟨131,8,131,12⟩) "depths" ⟨131,8,131,19⟩) "append" ⟨131,8,131,26⟩ (.cons (.bin (.cst (.int 1) 0 ⟨131,27,131,28⟩) .Add (.bi .max ⟨131,31,131,34⟩ (.cons (.bin (.lcomp (.sub (.attr (.var "self" ⟨131,36,131,40⟩) "depths" ⟨131,36,131,47⟩) (.var "kid" ⟨131,48,131,51⟩) ⟨131,36,131,52⟩) (.name "kid" ⟨131,57,131,60⟩) (.e (.slFrom (.var "node" ⟨131,64,131,68⟩) 1 ⟨131,69,131,70⟩ ⟨131,69,131,71⟩ ⟨131,64,131,72⟩)) .nil [(".0",.«local»),("kid",.«local»),("self",.free)] ⟨131,35,131,73⟩) .Add (.list (.cons (.cst (.int 0) 0 ⟨131,77,131,78⟩) .nil) ⟨131,76,131,79⟩) ⟨131,35,131,79⟩) .nil) ⟨131,31,131,80⟩) ⟨131,27,131,80⟩) .nil) ⟨131,8,131,81⟩) ⟨131,8,131,81⟩)
 (.cons (.ret (.bin (.bi .len ⟨132,15,132,18⟩ (.cons (.attr (.var "self" ⟨132,19,132,23⟩) "nodes" ⟨132,19,132,29⟩) .nil) ⟨132,15,132,30⟩) .Sub (.cst (.int 1) 0 ⟨132,33,132,34⟩) ⟨132,15,132,34⟩) ⟨132,8,132,34⟩)
 .nil)))))))))
@[reducible] noncomputable def mZ:Ss:=
 (.cons (.ite (.bool .Or (.cons (.not (.val (.fn .is_op ⟨135,15,135,20⟩ (.cons (.var "op" ⟨135,21,135,23⟩) .nil) ⟨135,15,135,24⟩)) ⟨135,11,135,24⟩) (.cons (.cmp (.sub (.var "op" ⟨135,28,135,30⟩) (.cst (.int 0) 0 ⟨135,31,135,32⟩) ⟨135,28,135,33⟩) .Eq (.cst (.str (Dy "?")) 0 ⟨135,37,135,40⟩) ⟨135,28,135,40⟩) .nil)) ⟨135,11,135,40⟩)
  (.cons (.raise AQ)
 .nil)
  .nil ⟨135,8,136,62⟩)
 .nil)
@[reducible] noncomputable def vJ:Ss:=
 (.cons (.ret (.sub (.sub (.attr (.var "self" ⟨150,15,150,19⟩) "nodes" ⟨150,15,150,25⟩) (.var "n" ⟨150,26,150,27⟩) ⟨150,15,150,28⟩) (.cst (.int 0) 0 ⟨150,29,150,30⟩) ⟨150,15,150,31⟩) ⟨150,8,150,31⟩)
 .nil)
@[reducible] noncomputable def rM:Ss:=
 (.cons (.ret (.slFrom (.sub (.attr (.var "self" ⟨153,15,153,19⟩) "nodes" ⟨153,15,153,25⟩) (.var "n" ⟨153,26,153,27⟩) ⟨153,15,153,28⟩) 1 ⟨153,29,153,30⟩ ⟨153,29,153,31⟩ ⟨153,15,153,32⟩) ⟨153,8,153,32⟩)
 .nil)
@[reducible] noncomputable def rN:Ss:=
 (.cons (.asgs [(.name "below" ⟨159,8,159,13⟩),(.name "stack" ⟨159,15,159,20⟩)] 0 ⟨159,8,159,20⟩ (.tup (.cons (.dict1 (.var "n" ⟨159,25,159,26⟩) (.cst (.bool true) 0 ⟨159,28,159,32⟩) ⟨159,24,159,33⟩) (.cons (.list (.cons (.var "n" ⟨159,36,159,37⟩) .nil) ⟨159,35,159,38⟩) .nil)) 0 ⟨159,23,159,39⟩) ⟨159,8,159,39⟩)
 (.cons (.while (.cmp (.bi .len ⟨160,14,160,17⟩ (.cons (.var "stack" ⟨160,18,160,23⟩) .nil) ⟨160,14,160,24⟩) .Gt (.cst (.int 0) 0 ⟨160,27,160,28⟩) ⟨160,14,160,28⟩)
  (.cons (.for (.name "kid" ⟨161,16,161,19⟩) (.e (.meth (.var "self" ⟨161,23,161,27⟩) "kids" ⟨161,23,161,32⟩ (.cons (.meth (.var "stack" ⟨161,33,161,38⟩) "pop" ⟨161,33,161,42⟩ .nil ⟨161,33,161,44⟩) .nil) ⟨161,23,161,45⟩))
  (.cons (.ite (.cmp (.var "kid" ⟨162,19,162,22⟩) .NotIn (.var "below" ⟨162,30,162,35⟩) ⟨162,19,162,35⟩)
  (.cons (.asg (.sub (.var "below" ⟨163,20,163,25⟩) (.var "kid" ⟨163,26,163,29⟩) ⟨163,20,163,30⟩) (.cst (.bool true) 0 ⟨163,33,163,37⟩) ⟨163,20,163,37⟩)
 (.cons (.expr (.meth (.var "stack" ⟨164,20,164,25⟩) "append" ⟨164,20,164,32⟩ (.cons (.var "kid" ⟨164,33,164,36⟩) .nil) ⟨164,20,164,37⟩) ⟨164,20,164,37⟩)
 .nil))
  .nil ⟨162,16,164,37⟩)
 .nil) ⟨161,12,164,37⟩)
 .nil) ⟨160,8,164,37⟩)
 (.cons (.asg (.name "made" ⟨165,8,165,12⟩) (.dict0 ⟨165,15,165,17⟩) ⟨165,8,165,17⟩)
 (.cons (.for (.name "k" ⟨166,12,166,13⟩) (.e (.bi .sorted ⟨166,17,166,23⟩ (.cons (.var "below" ⟨166,24,166,29⟩) .nil) ⟨166,17,166,30⟩))
  (.cons (.asg (.sub (.var "made" ⟨167,12,167,16⟩) (.var "k" ⟨167,17,167,18⟩) ⟨167,12,167,19⟩) (.bin (.tup (.cons (.meth (.var "self" ⟨167,23,167,27⟩) "op" ⟨167,23,167,30⟩ (.cons (.var "k" ⟨167,31,167,32⟩) .nil) ⟨167,23,167,33⟩) .nil) 0 ⟨167,22,167,35⟩) .Add (.bi .tuple ⟨167,38,167,43⟩ (.cons (.lcomp (.sub (.var "made" ⟨167,45,167,49⟩) (.var "kid" ⟨167,50,167,53⟩) ⟨167,45,167,54⟩) (.name "kid" ⟨167,59,167,62⟩) (.e (.meth (.var "self" ⟨167,66,167,70⟩) "kids" ⟨167,66,167,75⟩ (.cons (.var "k" ⟨167,76,167,77⟩) .nil) ⟨167,66,167,78⟩)) .nil [(".0",.«local»),("kid",.«local»),("made",.free)] ⟨167,44,167,79⟩) .nil) ⟨167,38,167,80⟩) ⟨167,22,167,80⟩) ⟨167,12,167,80⟩)
 .nil) ⟨166,8,167,80⟩)
 (.cons (.ret (.sub (.var "made" ⟨168,15,168,19⟩) (.var "n" ⟨168,20,168,21⟩) ⟨168,15,168,22⟩) ⟨168,8,168,22⟩)
 .nil)))))
@[reducible] noncomputable def rO:Ss:=
 (.cons (.asg (.attr (.var "self" ⟨182,8,182,12⟩) "above" ⟨182,8,182,18⟩) (.list .nil ⟨182,21,182,23⟩) ⟨182,8,182,23⟩)
 (.cons (.asg (.attr (.var "self" ⟨183,8,183,12⟩) "lots" ⟨183,8,183,17⟩) (.list .nil ⟨183,20,183,22⟩) ⟨183,8,183,22⟩)
 (.cons (.asg (.attr (.var "self" ⟨184,8,184,12⟩) "merged" ⟨184,8,184,19⟩) (.list .nil ⟨184,22,184,24⟩) ⟨184,8,184,24⟩)
 .nil)))
@[reducible] noncomputable def rP:Ss:=
 (.cons (.expr (.meth (.attr (.var "self" ⟨187,8,187,12⟩) "above" ⟨187,8,187,18⟩) "append" ⟨187,8,187,25⟩ (.cons (.bi .len ⟨187,26,187,29⟩ (.cons (.attr (.var "self" ⟨187,30,187,34⟩) "above" ⟨187,30,187,40⟩) .nil) ⟨187,26,187,41⟩) .nil) ⟨187,8,187,42⟩) ⟨187,8,187,42⟩)
 (.cons (.expr (.meth (.attr (.var "self" ⟨188,8,188,12⟩) "lots" ⟨188,8,188,17⟩) "append" ⟨188,8,188,24⟩ (.cons (.list (.cons (.bi .len ⟨188,26,188,29⟩ (.cons (.attr (.var "self" ⟨188,30,188,34⟩) "lots" ⟨188,30,188,39⟩) .nil) ⟨188,26,188,40⟩) .nil) ⟨188,25,188,41⟩) .nil) ⟨188,8,188,42⟩) ⟨188,8,188,42⟩)
 (.cons (.ret (.bin (.bi .len ⟨189,15,189,18⟩ (.cons (.attr (.var "self" ⟨189,19,189,23⟩) "above" ⟨189,19,189,29⟩) .nil) ⟨189,15,189,30⟩) .Sub (.cst (.int 1) 0 ⟨189,33,189,34⟩) ⟨189,15,189,34⟩) ⟨189,8,189,34⟩)
 .nil)))
@[reducible] noncomputable def rQ:Ss:=
 (.cons (.ret (.bi .len ⟨192,15,192,18⟩ (.cons (.attr (.var "self" ⟨192,19,192,23⟩) "above" ⟨192,19,192,29⟩) .nil) ⟨192,15,192,30⟩) ⟨192,8,192,30⟩)
 .nil)
@[reducible] noncomputable def rR:Ss:=
 (.cons (.while (.cmp (.sub (.attr (.var "self" ⟨195,14,195,18⟩) "above" ⟨195,14,195,24⟩) (.var "a" ⟨195,25,195,26⟩) ⟨195,14,195,27⟩) .NotEq (.var "a" ⟨195,31,195,32⟩) ⟨195,14,195,32⟩)
  (.cons (.asg (.name "a" ⟨196,12,196,13⟩) (.sub (.attr (.var "self" ⟨196,16,196,20⟩) "above" ⟨196,16,196,26⟩) (.var "a" ⟨196,27,196,28⟩) ⟨196,16,196,29⟩) ⟨196,12,196,29⟩)
 .nil) ⟨195,8,196,29⟩)
 (.cons (.ret (.var "a" ⟨197,15,197,16⟩) ⟨197,8,197,16⟩)
 .nil))
@[reducible] noncomputable def qa:Ss:=
 (.cons (.asgs [(.name "kept" ⟨200,8,200,12⟩),(.name "gone" ⟨200,14,200,18⟩)] 0 ⟨200,8,200,18⟩ (.bi .sorted ⟨200,21,200,27⟩ (.cons (.list (.cons (.meth (.var "self" ⟨200,29,200,33⟩) "find" ⟨200,29,200,38⟩ (.cons (.var "a" ⟨200,39,200,40⟩) .nil) ⟨200,29,200,41⟩) (.cons (.meth (.var "self" ⟨200,43,200,47⟩) "find" ⟨200,43,200,52⟩ (.cons (.var "b" ⟨200,53,200,54⟩) .nil) ⟨200,43,200,55⟩) .nil)) ⟨200,28,200,56⟩) .nil) ⟨200,21,200,57⟩) ⟨200,8,200,57⟩)
 (.cons (.ite (.cmp (.var "kept" ⟨201,11,201,15⟩) .Eq (.var "gone" ⟨201,19,201,23⟩) ⟨201,11,201,23⟩)
  (.cons (.ret (.cst .none 0 ⟨202,19,202,23⟩) ⟨202,12,202,23⟩)
 .nil)
  .nil ⟨201,8,202,23⟩)
 (.cons (.asg (.sub (.attr (.var "self" ⟨203,8,203,12⟩) "above" ⟨203,8,203,18⟩) (.var "gone" ⟨203,19,203,23⟩) ⟨203,8,203,24⟩) (.var "kept" ⟨203,27,203,31⟩) ⟨203,8,203,31⟩)
 (.cons (.expr (.meth (.sub (.attr (.var "self" ⟨204,8,204,12⟩) "lots" ⟨204,8,204,17⟩) (.var "kept" ⟨204,18,204,22⟩) ⟨204,8,204,23⟩) "extend" ⟨204,8,204,30⟩ (.cons (.sub (.attr (.var "self" ⟨204,31,204,35⟩) "lots" ⟨204,31,204,40⟩) (.var "gone" ⟨204,41,204,45⟩) ⟨204,31,204,46⟩) .nil) ⟨204,8,204,47⟩) ⟨204,8,204,47⟩)
 (.cons (.expr (.meth (.attr (.var "self" ⟨205,8,205,12⟩) "merged" ⟨205,8,205,19⟩) "append" ⟨205,8,205,26⟩ (.cons (.tup (.cons (.var "kept" ⟨205,28,205,32⟩) (.cons (.var "gone" ⟨205,34,205,38⟩) .nil)) 0 ⟨205,27,205,39⟩) .nil) ⟨205,8,205,40⟩) ⟨205,8,205,40⟩)
 (.cons (.ret (.tup (.cons (.var "kept" ⟨206,16,206,20⟩) (.cons (.var "gone" ⟨206,22,206,26⟩) .nil)) 0 ⟨206,15,206,27⟩) ⟨206,8,206,27⟩)
 .nil))))))
@[reducible] noncomputable def m7:Ss:=
 (.cons (.ret (.bi .sorted ⟨209,15,209,21⟩ (.cons (.sub (.attr (.var "self" ⟨209,22,209,26⟩) "lots" ⟨209,22,209,31⟩) (.meth (.var "self" ⟨209,32,209,36⟩) "find" ⟨209,32,209,41⟩ (.cons (.var "a" ⟨209,42,209,43⟩) .nil) ⟨209,32,209,44⟩) ⟨209,22,209,45⟩) .nil) ⟨209,15,209,46⟩) ⟨209,8,209,46⟩)
 .nil)
@[reducible] noncomputable def m8:Ss:=
 (.cons (.ret (.lcomp (.var "a" ⟨212,16,212,17⟩) (.name "a" ⟨212,22,212,23⟩) (.range ⟨212,27,212,32⟩ (.bi .len ⟨212,33,212,36⟩ (.cons (.attr (.var "self" ⟨212,37,212,41⟩) "above" ⟨212,37,212,47⟩) .nil) ⟨212,33,212,48⟩) ⟨212,27,212,49⟩) (.cons (.cmp (.sub (.attr (.var "self" ⟨212,53,212,57⟩) "above" ⟨212,53,212,63⟩) (.var "a" ⟨212,64,212,65⟩) ⟨212,53,212,66⟩) .Eq (.var "a" ⟨212,70,212,71⟩) ⟨212,53,212,71⟩) .nil) [(".0",.«local»),("a",.«local»),("self",.free)] ⟨212,15,212,72⟩) ⟨212,8,212,72⟩)
 .nil)
@[reducible] noncomputable def rS:Ss:=
 (.cons (.asg (.attr (.var "self" ⟨226,8,226,12⟩) "bank" ⟨226,8,226,17⟩) (.new .bank ⟨226,20,226,24⟩ .nil ⟨226,20,226,26⟩) ⟨226,8,226,26⟩)
 (.cons (.asg (.attr (.var "self" ⟨227,8,227,12⟩) "unions" ⟨227,8,227,19⟩) (.new .unions ⟨227,22,227,28⟩ .nil ⟨227,22,227,30⟩) ⟨227,8,227,30⟩)
 (.cons (.asg (.attr (.var "self" ⟨228,8,228,12⟩) "edges" ⟨228,8,228,18⟩) (.list .nil ⟨228,21,228,23⟩) ⟨228,8,228,23⟩)
 (.cons (.asg (.attr (.var "self" ⟨229,8,229,12⟩) "forest" ⟨229,8,229,19⟩) (.list .nil ⟨229,22,229,24⟩) ⟨229,8,229,24⟩)
 (.cons (.asg (.attr (.var "self" ⟨230,8,230,12⟩) "known" ⟨230,8,230,18⟩) (.dict0 ⟨230,21,230,23⟩) ⟨230,8,230,23⟩)
 (.cons (.asg (.attr (.var "self" ⟨231,8,231,12⟩) "above" ⟨231,8,231,18⟩) (.dict0 ⟨231,21,231,23⟩) ⟨231,8,231,23⟩)
 (.cons (.asg (.attr (.var "self" ⟨232,8,232,12⟩) "waiting" ⟨232,8,232,20⟩) (.list .nil ⟨232,23,232,25⟩) ⟨232,8,232,25⟩)
 .nil)))))))
@[reducible] noncomputable def rT:Ss:=
 (.cons (.ret (.meth (.attr (.var "self" ⟨235,15,235,19⟩) "bank" ⟨235,15,235,24⟩) "size" ⟨235,15,235,29⟩ .nil ⟨235,15,235,31⟩) ⟨235,8,235,31⟩)
 .nil)
@[reducible] noncomputable def rU:Ss:=
 (.cons (.ret (.bin (.tup (.cons (.meth (.attr (.var "self" ⟨238,16,238,20⟩) "bank" ⟨238,16,238,25⟩) "op" ⟨238,16,238,28⟩ (.cons (.var "n" ⟨238,29,238,30⟩) .nil) ⟨238,16,238,31⟩) .nil) 0 ⟨238,15,238,33⟩) .Add (.bi .tuple ⟨238,36,238,41⟩ (.cons (.lcomp (.meth (.var "self" ⟨238,43,238,47⟩) "find" ⟨238,43,238,52⟩ (.cons (.var "kid" ⟨238,53,238,56⟩) .nil) ⟨238,43,238,57⟩) (.name "kid" ⟨238,62,238,65⟩) (.e (.meth (.attr (.var "self" ⟨238,69,238,73⟩) "bank" ⟨238,69,238,78⟩) "kids" ⟨238,69,238,83⟩ (.cons (.var "n" ⟨238,84,238,85⟩) .nil) ⟨238,69,238,86⟩)) .nil [(".0",.«local»),("kid",.«local»),("self",.free)] ⟨238,42,238,87⟩) .nil) ⟨238,36,238,88⟩) ⟨238,15,238,88⟩) ⟨238,8,238,88⟩)
 .nil)
@[reducible] noncomputable def tR:Ss:=
 (.cons (.asg (.name "n" ⟨241,8,241,9⟩) (.meth (.attr (.var "self" ⟨241,12,241,16⟩) "bank" ⟨241,12,241,21⟩) "take" ⟨241,12,241,26⟩ (.cons (.var "op" ⟨241,27,241,29⟩) (.cons (.var "numbers" ⟨241,31,241,38⟩) .nil)) ⟨241,12,241,39⟩) ⟨241,8,241,39⟩)
 (.cons (.ite (.cmp (.var "n" ⟨242,11,242,12⟩) .Lt (.meth (.attr (.var "self" ⟨242,15,242,19⟩) "unions" ⟨242,15,242,26⟩) "size" ⟨242,15,242,31⟩ .nil ⟨242,15,242,33⟩) ⟨242,11,242,33⟩)
  (.cons (.ret (.var "n" ⟨243,19,243,20⟩) ⟨243,12,243,20⟩)
 .nil)
  .nil ⟨242,8,243,20⟩)
 (.cons (.expr (.meth (.attr (.var "self" ⟨244,8,244,12⟩) "unions" ⟨244,8,244,19⟩) "make" ⟨244,8,244,24⟩ .nil ⟨244,8,244,26⟩) ⟨244,8,244,26⟩)
 (.cons (.asg (.sub (.attr (.var "self" ⟨245,8,245,12⟩) "above" ⟨245,8,245,18⟩) (.var "n" ⟨245,19,245,20⟩) ⟨245,8,245,21⟩) (.list .nil ⟨245,24,245,26⟩) ⟨245,8,245,26⟩)
 (.cons (.for (.name "c" ⟨246,12,246,13⟩) (.e (.sortedSet (.lcomp (.meth (.var "self" ⟨246,29,246,33⟩) "find" ⟨246,29,246,38⟩ (.cons (.var "kid" ⟨246,39,246,42⟩) .nil) ⟨246,29,246,43⟩) (.name "kid" ⟨246,48,246,51⟩) (.e (.var "numbers" ⟨246,55,246,62⟩)) .nil [(".0",.«local»),("kid",.«local»),("self",.free)] ⟨246,28,246,63⟩) ⟨246,17,246,23⟩ ⟨246,24,246,27⟩ ⟨246,24,246,64⟩ ⟨246,17,246,65⟩))
  (.cons (.expr (.meth (.sub (.attr (.var "self" ⟨247,12,247,16⟩) "above" ⟨247,12,247,22⟩) (.var "c" ⟨247,23,247,24⟩) ⟨247,12,247,25⟩) "append" ⟨247,12,247,32⟩ (.cons (.var "n" ⟨247,33,247,34⟩) .nil) ⟨247,12,247,35⟩) ⟨247,12,247,35⟩)
 .nil) ⟨246,8,247,35⟩)
 (.cons (.expr (.meth (.var "self" ⟨248,8,248,12⟩) "look_at" ⟨248,8,248,20⟩ (.cons (.var "n" ⟨248,21,248,22⟩) .nil) ⟨248,8,248,23⟩) ⟨248,8,248,23⟩)
 (.cons (.ret (.var "n" ⟨249,15,249,16⟩) ⟨249,8,249,16⟩)
 .nil)))))))
@[reducible] noncomputable def tS:Ss:=
 (.cons (.ret (.meth (.var "self" ⟨252,15,252,19⟩) "add" ⟨252,15,252,23⟩ (.cons (.sub (.var "term" ⟨252,24,252,28⟩) (.cst (.int 0) 0 ⟨252,29,252,30⟩) ⟨252,24,252,31⟩) (.cons (.bi .tuple ⟨252,33,252,38⟩ (.cons (.lcomp (.meth (.var "self" ⟨252,40,252,44⟩) "put" ⟨252,40,252,48⟩ (.cons (.var "part" ⟨252,49,252,53⟩) .nil) ⟨252,40,252,54⟩) (.name "part" ⟨252,59,252,63⟩) (.e (.slFrom (.var "term" ⟨252,67,252,71⟩) 1 ⟨252,72,252,73⟩ ⟨252,72,252,74⟩ ⟨252,67,252,75⟩)) .nil [(".0",.«local»),("part",.«local»),("self",.free)] ⟨252,39,252,76⟩) .nil) ⟨252,33,252,77⟩) .nil)) ⟨252,15,252,78⟩) ⟨252,8,252,78⟩)
 .nil)
@[reducible] noncomputable def m9:Ss:=
 (.cons (.asg (.name "other" ⟨255,8,255,13⟩) (.meth (.attr (.var "self" ⟨255,16,255,20⟩) "known" ⟨255,16,255,26⟩) "setdefault" ⟨255,16,255,37⟩ (.cons (.meth (.var "self" ⟨255,38,255,42⟩) "node" ⟨255,38,255,47⟩ (.cons (.var "n" ⟨255,48,255,49⟩) .nil) ⟨255,38,255,50⟩) (.cons (.var "n" ⟨255,52,255,53⟩) .nil)) ⟨255,16,255,54⟩) ⟨255,8,255,54⟩)
 (.cons (.ite (.cmp (.meth (.var "self" ⟨256,11,256,15⟩) "find" ⟨256,11,256,20⟩ (.cons (.var "other" ⟨256,21,256,26⟩) .nil) ⟨256,11,256,27⟩) .NotEq (.meth (.var "self" ⟨256,31,256,35⟩) "find" ⟨256,31,256,40⟩ (.cons (.var "n" ⟨256,41,256,42⟩) .nil) ⟨256,31,256,43⟩) ⟨256,11,256,43⟩)
  (.cons (.expr (.meth (.var "self" ⟨257,12,257,16⟩) "join" ⟨257,12,257,21⟩ (.cons (.var "other" ⟨257,22,257,27⟩) (.cons (.var "n" ⟨257,29,257,30⟩) (.cons (.tup (.cons (.cst (.str (Dy "like")) 0 ⟨257,33,257,39⟩) .nil) 0 ⟨257,32,257,41⟩) .nil))) ⟨257,12,257,42⟩) ⟨257,12,257,42⟩)
 .nil)
  .nil ⟨256,8,257,42⟩)
 .nil))
@[reducible] noncomputable def rV:Ss:=
 (.cons (.ret (.meth (.attr (.var "self" ⟨260,15,260,19⟩) "unions" ⟨260,15,260,26⟩) "find" ⟨260,15,260,31⟩ (.cons (.var "n" ⟨260,32,260,33⟩) .nil) ⟨260,15,260,34⟩) ⟨260,8,260,34⟩)
 .nil)
@[reducible] noncomputable def lR:Ss:=
 (.cons (.ret (.test (.cmp (.meth (.var "self" ⟨263,15,263,19⟩) "find" ⟨263,15,263,24⟩ (.cons (.var "a" ⟨263,25,263,26⟩) .nil) ⟨263,15,263,27⟩) .Eq (.meth (.var "self" ⟨263,31,263,35⟩) "find" ⟨263,31,263,40⟩ (.cons (.var "b" ⟨263,41,263,42⟩) .nil) ⟨263,31,263,43⟩) ⟨263,15,263,43⟩)) ⟨263,8,263,43⟩)
 .nil)
@[reducible] noncomputable def qb:Ss:=
 (.cons (.ret (.meth (.var "self" ⟨266,15,266,19⟩) "join" ⟨266,15,266,24⟩ (.cons (.var "a" ⟨266,25,266,26⟩) (.cons (.var "b" ⟨266,28,266,29⟩) (.cons (.var "reason" ⟨266,31,266,37⟩) .nil))) ⟨266,15,266,38⟩) ⟨266,8,266,38⟩)
 .nil)
@[reducible] noncomputable def rW:Ss:=
 (.cons (.expr (.meth (.attr (.var "self" ⟨269,8,269,12⟩) "edges" ⟨269,8,269,18⟩) "append" ⟨269,8,269,25⟩ (.cons (.tup (.cons (.var "a" ⟨269,27,269,28⟩) (.cons (.var "b" ⟨269,30,269,31⟩) (.cons (.var "reason" ⟨269,33,269,39⟩) .nil))) 0 ⟨269,26,269,40⟩) .nil) ⟨269,8,269,41⟩) ⟨269,8,269,41⟩)
 (.cons (.asg (.name "merged" ⟨270,8,270,14⟩) (.meth (.attr (.var "self" ⟨270,17,270,21⟩) "unions" ⟨270,17,270,28⟩) "merge" ⟨270,17,270,34⟩ (.cons (.var "a" ⟨270,35,270,36⟩) (.cons (.var "b" ⟨270,38,270,39⟩) .nil)) ⟨270,17,270,40⟩) ⟨270,8,270,40⟩)
 (.cons (.ite (.cmp (.var "merged" ⟨271,11,271,17⟩) .Is (.cst .none 0 ⟨271,21,271,25⟩) ⟨271,11,271,25⟩)
  (.cons (.ret (.cst (.bool false) 0 ⟨272,19,272,24⟩) ⟨272,12,272,24⟩)
 .nil)
  .nil ⟨271,8,272,24⟩)
 (.cons (.asgs [(.name "kept" ⟨273,8,273,12⟩),(.name "gone" ⟨273,14,273,18⟩)] 0 ⟨273,8,273,18⟩ (.var "merged" ⟨273,21,273,27⟩) ⟨273,8,273,27⟩)
 (.cons (.expr (.meth (.attr (.var "self" ⟨274,8,274,12⟩) "forest" ⟨274,8,274,19⟩) "append" ⟨274,8,274,26⟩ (.cons (.bin (.bi .len ⟨274,27,274,30⟩ (.cons (.attr (.var "self" ⟨274,31,274,35⟩) "edges" ⟨274,31,274,41⟩) .nil) ⟨274,27,274,42⟩) .Sub (.cst (.int 1) 0 ⟨274,45,274,46⟩) ⟨274,27,274,46⟩) .nil) ⟨274,8,274,47⟩) ⟨274,8,274,47⟩)
 (.cons (.expr (.meth (.attr (.var "self" ⟨275,8,275,12⟩) "waiting" ⟨275,8,275,20⟩) "extend" ⟨275,8,275,27⟩ (.cons (.sub (.attr (.var "self" ⟨275,28,275,32⟩) "above" ⟨275,28,275,38⟩) (.var "gone" ⟨275,39,275,43⟩) ⟨275,28,275,44⟩) .nil) ⟨275,8,275,45⟩) ⟨275,8,275,45⟩)
 (.cons (.asg (.sub (.attr (.var "self" ⟨276,8,276,12⟩) "above" ⟨276,8,276,18⟩) (.var "kept" ⟨276,19,276,23⟩) ⟨276,8,276,24⟩) (.bin (.sub (.attr (.var "self" ⟨276,27,276,31⟩) "above" ⟨276,27,276,37⟩) (.var "kept" ⟨276,38,276,42⟩) ⟨276,27,276,43⟩) .Add (.meth (.attr (.var "self" ⟨276,46,276,50⟩) "above" ⟨276,46,276,56⟩) "pop" ⟨276,46,276,60⟩ (.cons (.var "gone" ⟨276,61,276,65⟩) .nil) ⟨276,46,276,66⟩) ⟨276,27,276,66⟩) ⟨276,8,276,66⟩)
 (.cons (.ret (.cst (.bool true) 0 ⟨277,15,277,19⟩) ⟨277,8,277,19⟩)
 .nil))))))))
@[reducible] noncomputable def o3:Ss:=
 (.cons (.while (.cmp (.bi .len ⟨280,14,280,17⟩ (.cons (.attr (.var "self" ⟨280,18,280,22⟩) "waiting" ⟨280,18,280,30⟩) .nil) ⟨280,14,280,31⟩) .Gt (.cst (.int 0) 0 ⟨280,34,280,35⟩) ⟨280,14,280,35⟩)
  (.cons (.expr (.meth (.var "self" ⟨281,12,281,16⟩) "look_at" ⟨281,12,281,24⟩ (.cons (.meth (.attr (.var "self" ⟨281,25,281,29⟩) "waiting" ⟨281,25,281,37⟩) "pop" ⟨281,25,281,41⟩ .nil ⟨281,25,281,43⟩) .nil) ⟨281,12,281,44⟩) ⟨281,12,281,44⟩)
 .nil) ⟨280,8,281,44⟩)
 .nil)
@[reducible] noncomputable def kD:Ss:=
 (.cons (.ret (.test (.cmp (.bi .len ⟨284,15,284,18⟩ (.cons (.attr (.var "self" ⟨284,19,284,23⟩) "waiting" ⟨284,19,284,31⟩) .nil) ⟨284,15,284,32⟩) .Eq (.cst (.int 0) 0 ⟨284,36,284,37⟩) ⟨284,15,284,37⟩)) ⟨284,8,284,37⟩)
 .nil)
@[reducible] noncomputable def nc:Ss:=
 (.cons (.ret (.meth (.attr (.var "self" ⟨287,15,287,19⟩) "unions" ⟨287,15,287,26⟩) "classes" ⟨287,15,287,34⟩ .nil ⟨287,15,287,36⟩) ⟨287,8,287,36⟩)
 .nil)
@[reducible] noncomputable def nf:Ss:=
 (.cons (.ret (.meth (.attr (.var "self" ⟨290,15,290,19⟩) "unions" ⟨290,15,290,26⟩) "members" ⟨290,15,290,34⟩ (.cons (.var "c" ⟨290,35,290,36⟩) .nil) ⟨290,15,290,37⟩) ⟨290,8,290,37⟩)
 .nil)
@[reducible] noncomputable def lS:Ss:=
 (.cons (.ret (.sortedSet (.lcomp (.meth (.var "self" ⟨293,27,293,31⟩) "node" ⟨293,27,293,36⟩ (.cons (.var "n" ⟨293,37,293,38⟩) .nil) ⟨293,27,293,39⟩) (.name "n" ⟨293,44,293,45⟩) (.e (.meth (.var "self" ⟨293,49,293,53⟩) "members" ⟨293,49,293,61⟩ (.cons (.var "c" ⟨293,62,293,63⟩) .nil) ⟨293,49,293,64⟩)) .nil [(".0",.«local»),("n",.«local»),("self",.free)] ⟨293,26,293,65⟩) ⟨293,15,293,21⟩ ⟨293,22,293,25⟩ ⟨293,22,293,66⟩ ⟨293,15,293,67⟩) ⟨293,8,293,67⟩)
 .nil)
@[reducible] noncomputable def qc:Ss:=
 (.cons (.ret (.sortedSet (.sub (.attr (.var "self" ⟨303,26,303,30⟩) "above" ⟨303,26,303,36⟩) (.meth (.var "self" ⟨303,37,303,41⟩) "find" ⟨303,37,303,46⟩ (.cons (.var "c" ⟨303,47,303,48⟩) .nil) ⟨303,37,303,49⟩) ⟨303,26,303,50⟩) ⟨303,15,303,21⟩ ⟨303,22,303,25⟩ ⟨303,22,303,51⟩ ⟨303,15,303,52⟩) ⟨303,8,303,52⟩)
 .nil)
@[reducible] noncomputable def o4:Ss:=
 (.cons (.ret (.list (.cons (.cst (.str (Dy "x")) 0 ⟨306,12,306,15⟩) (.cons (.cst (.str (Dy "y")) 0 ⟨306,17,306,20⟩) (.cons (.cst (.str (Dy "0")) 0 ⟨306,22,306,25⟩) (.cons (.cst (.str (Dy "1")) 0 ⟨306,27,306,30⟩) (.cons (.cst (.str (Dy "2")) 0 ⟨306,32,306,35⟩) (.cons (.cst (.str (Dy "-1")) 0 ⟨306,37,306,41⟩) (.cons (.cst (.str (Dy "9")) 0 ⟨306,43,306,46⟩) (.cons (.cst (.str (Dy "40")) 0 ⟨306,48,306,52⟩) .nil)))))))) ⟨306,11,306,53⟩) ⟨306,4,306,53⟩)
 .nil)
@[reducible] noncomputable def tT:Ss:=
 (.cons (.asgs [(.name "cells" ⟨308,4,308,9⟩),(.name "spot" ⟨308,11,308,15⟩)] 0 ⟨308,4,308,15⟩ (.var "tape" ⟨308,18,308,22⟩) ⟨308,4,308,22⟩)
 (.cons (.asg (.sub (.var "tape" ⟨309,4,309,8⟩) (.cst (.int 1) 0 ⟨309,9,309,10⟩) ⟨309,4,309,11⟩) (.bin (.var "spot" ⟨309,14,309,18⟩) .Add (.cst (.int 1) 0 ⟨309,21,309,22⟩) ⟨309,14,309,22⟩) ⟨309,4,309,22⟩)
 (.cons (.ret (.bin (.ife (.cmp (.var "spot" ⟨310,27,310,31⟩) .Lt (.bi .len ⟨310,34,310,37⟩ (.cons (.var "cells" ⟨310,38,310,43⟩) .nil) ⟨310,34,310,44⟩) ⟨310,27,310,44⟩) (.sub (.var "cells" ⟨310,12,310,17⟩) (.var "spot" ⟨310,18,310,22⟩) ⟨310,12,310,23⟩) (.bin (.bin (.bin (.bin (.bin (.cst (.int 11) 0 ⟨310,51,310,53⟩) .Mult (.var "spot" ⟨310,56,310,60⟩) ⟨310,51,310,60⟩) .Mult (.var "spot" ⟨310,63,310,67⟩) ⟨310,51,310,67⟩) .Add (.bin (.cst (.int 5) 0 ⟨310,70,310,71⟩) .Mult (.var "spot" ⟨310,74,310,78⟩) ⟨310,70,310,78⟩) ⟨310,51,310,78⟩) .Add (.cst (.int 3) 0 ⟨310,81,310,82⟩) ⟨310,51,310,82⟩) .Mod (.cst (.int 101) 0 ⟨310,86,310,89⟩) ⟨310,50,310,89⟩) ⟨310,12,310,89⟩) .Mod (.var "many" ⟨310,93,310,97⟩) ⟨310,11,310,97⟩) ⟨310,4,310,97⟩)
 .nil)))
@[reducible] noncomputable def rX:Ss:=
 (.cons (.asg (.name "way" ⟨312,4,312,7⟩) (.ife (.cmp (.var "deep" ⟨312,31,312,35⟩) .Gt (.cst (.int 0) 0 ⟨312,38,312,39⟩) ⟨312,31,312,39⟩) (.fn .l_dip ⟨312,10,312,18⟩ (.cons (.var "tape" ⟨312,19,312,23⟩) (.cons (.cst (.int 6) 0 ⟨312,25,312,26⟩) .nil)) ⟨312,10,312,27⟩) (.cst (.int 0) 0 ⟨312,45,312,46⟩) ⟨312,10,312,46⟩) ⟨312,4,312,46⟩)
 (.cons (.ite (.cmp (.var "way" ⟨313,7,313,10⟩) .Lt (.cst (.int 2) 0 ⟨313,13,313,14⟩) ⟨313,7,313,14⟩)
  (.cons (.ret (.tup (.cons (.sub (.fn .l_leaves ⟨314,16,314,27⟩ .nil ⟨314,16,314,29⟩) (.fn .l_dip ⟨314,30,314,38⟩ (.cons (.var "tape" ⟨314,39,314,43⟩) (.cons (.cst (.int 8) 0 ⟨314,45,314,46⟩) .nil)) ⟨314,30,314,47⟩) ⟨314,16,314,48⟩) .nil) 0 ⟨314,15,314,50⟩) ⟨314,8,314,50⟩)
 .nil)
  .nil ⟨313,4,314,50⟩)
 (.cons (.asg (.name "kid" ⟨315,4,315,7⟩) (.fn .l_term ⟨315,10,315,19⟩ (.cons (.var "tape" ⟨315,20,315,24⟩) (.cons (.bin (.var "deep" ⟨315,26,315,30⟩) .Sub (.cst (.int 1) 0 ⟨315,33,315,34⟩) ⟨315,26,315,34⟩) .nil)) ⟨315,10,315,35⟩) ⟨315,4,315,35⟩)
 (.cons (.ite (.cmp (.var "way" ⟨316,7,316,10⟩) .Eq (.cst (.int 2) 0 ⟨316,14,316,15⟩) ⟨316,7,316,15⟩)
  (.cons (.ret (.tup (.cons (.cst (.str (Dy "neg")) 0 ⟨317,16,317,21⟩) (.cons (.var "kid" ⟨317,23,317,26⟩) .nil)) 0 ⟨317,15,317,27⟩) ⟨317,8,317,27⟩)
 .nil)
  .nil ⟨316,4,317,27⟩)
 (.cons (.ret (.tup (.cons (.ife (.cmp (.bin (.var "way" ⟨318,21,318,24⟩) .Mod (.cst (.int 2) 0 ⟨318,27,318,28⟩) ⟨318,21,318,28⟩) .Eq (.cst (.int 1) 0 ⟨318,32,318,33⟩) ⟨318,21,318,33⟩) (.cst (.str (Dy "add")) 0 ⟨318,12,318,17⟩) (.cst (.str (Dy "mul")) 0 ⟨318,39,318,44⟩) ⟨318,12,318,44⟩) (.cons (.var "kid" ⟨318,46,318,49⟩) (.cons (.fn .l_term ⟨318,51,318,60⟩ (.cons (.var "tape" ⟨318,61,318,65⟩) (.cons (.bin (.var "deep" ⟨318,67,318,71⟩) .Sub (.cst (.int 1) 0 ⟨318,74,318,75⟩) ⟨318,67,318,75⟩) .nil)) ⟨318,51,318,76⟩) .nil))) 0 ⟨318,11,318,77⟩) ⟨318,4,318,77⟩)
 .nil)))))
@[reducible] noncomputable def o5:Ss:=
 (.cons (.asgs [(.name "labels" ⟨320,4,320,10⟩),(.name "is_new" ⟨320,12,320,18⟩)] 0 ⟨320,4,320,18⟩ (.tup (.cons (.bi .dict ⟨320,22,320,26⟩ (.cons (.lcomp (.tup (.cons (.var "t" ⟨320,29,320,30⟩) (.cons (.var "k" ⟨320,32,320,33⟩) .nil)) 0 ⟨320,28,320,34⟩) (.pair "k" ⟨320,39,320,40⟩ "t" ⟨320,42,320,43⟩ 0 ⟨320,39,320,43⟩) (.enum ⟨320,47,320,56⟩ (.var "terms" ⟨320,57,320,62⟩) ⟨320,47,320,63⟩) .nil [(".0",.«local»),("k",.«local»),("t",.«local»)] ⟨320,27,320,64⟩) .nil) ⟨320,22,320,65⟩) (.cons (.cst (.bool true) 0 ⟨320,67,320,71⟩) .nil)) 0 ⟨320,21,320,72⟩) ⟨320,4,320,72⟩)
 (.cons (.while (.val (.var "is_new" ⟨321,10,321,16⟩))
  (.cons (.asgs [(.name "seen" ⟨322,8,322,12⟩),(.name "is_new" ⟨322,14,322,20⟩)] 0 ⟨322,8,322,20⟩ (.tup (.cons (.dict0 ⟨322,24,322,26⟩) (.cons (.cst (.bool false) 0 ⟨322,28,322,33⟩) .nil)) 0 ⟨322,23,322,34⟩) ⟨322,8,322,34⟩)
 (.cons (.for (.pair "one" ⟨323,12,323,15⟩ "other" ⟨323,17,323,22⟩ 0 ⟨323,12,323,22⟩) (.e (.bin (.var "told" ⟨323,26,323,30⟩) .Add (.lcomp (.tup (.cons (.var "t" ⟨323,35,323,36⟩) (.cons (.cst .none 0 ⟨323,38,323,42⟩) .nil)) 0 ⟨323,34,323,43⟩) (.name "t" ⟨323,48,323,49⟩) (.e (.var "terms" ⟨323,53,323,58⟩)) .nil [(".0",.«local»),("t",.«local»)] ⟨323,33,323,59⟩) ⟨323,26,323,59⟩))
  (.cons (.ite (.cmp (.var "other" ⟨324,15,324,20⟩) .Is (.cst .none 0 ⟨324,24,324,28⟩) ⟨324,15,324,28⟩)
  (.cons (.asg (.name "other" ⟨325,16,325,21⟩) (.meth (.var "seen" ⟨325,24,325,28⟩) "setdefault" ⟨325,24,325,39⟩ (.cons (.tup (.cons (.sub (.var "one" ⟨325,41,325,44⟩) (.cst (.int 0) 0 ⟨325,45,325,46⟩) ⟨325,41,325,47⟩) (.cons (.bi .tuple ⟨325,49,325,54⟩ (.cons (.lcomp (.sub (.var "labels" ⟨325,56,325,62⟩) (.var "kid" ⟨325,63,325,66⟩) ⟨325,56,325,67⟩) (.name "kid" ⟨325,72,325,75⟩) (.e (.slFrom (.var "one" ⟨325,79,325,82⟩) 1 ⟨325,83,325,84⟩ ⟨325,83,325,85⟩ ⟨325,79,325,86⟩)) .nil [(".0",.«local»),("kid",.«local»),("labels",.free)] ⟨325,55,325,87⟩) .nil) ⟨325,49,325,88⟩) .nil)) 0 ⟨325,40,325,89⟩) (.cons (.var "one" ⟨325,91,325,94⟩) .nil)) ⟨325,24,325,95⟩) ⟨325,16,325,95⟩)
 .nil)
  .nil ⟨324,12,325,95⟩)
 (.cons (.ite (.cmp (.sub (.var "labels" ⟨326,15,326,21⟩) (.var "one" ⟨326,22,326,25⟩) ⟨326,15,326,26⟩) .NotEq (.sub (.var "labels" ⟨326,30,326,36⟩) (.var "other" ⟨326,37,326,42⟩) ⟨326,30,326,43⟩) ⟨326,15,326,43⟩)
  (.cons (.asgs [(.name "gone" ⟨327,16,327,20⟩),(.name "kept" ⟨327,22,327,26⟩),(.name "is_new" ⟨327,28,327,34⟩)] 0 ⟨327,16,327,34⟩ (.tup (.cons (.sub (.var "labels" ⟨327,38,327,44⟩) (.var "one" ⟨327,45,327,48⟩) ⟨327,38,327,49⟩) (.cons (.sub (.var "labels" ⟨327,51,327,57⟩) (.var "other" ⟨327,58,327,63⟩) ⟨327,51,327,64⟩) (.cons (.cst (.bool true) 0 ⟨327,66,327,70⟩) .nil))) 0 ⟨327,37,327,71⟩) ⟨327,16,327,71⟩)
 (.cons (.for (.name "t" ⟨328,20,328,21⟩) (.e (.var "terms" ⟨328,25,328,30⟩))
  (.cons (.asg (.sub (.var "labels" ⟨329,20,329,26⟩) (.var "t" ⟨329,27,329,28⟩) ⟨329,20,329,29⟩) (.ife (.cmp (.sub (.var "labels" ⟨329,40,329,46⟩) (.var "t" ⟨329,47,329,48⟩) ⟨329,40,329,49⟩) .Eq (.var "gone" ⟨329,53,329,57⟩) ⟨329,40,329,57⟩) (.var "kept" ⟨329,32,329,36⟩) (.sub (.var "labels" ⟨329,63,329,69⟩) (.var "t" ⟨329,70,329,71⟩) ⟨329,63,329,72⟩) ⟨329,32,329,72⟩) ⟨329,20,329,72⟩)
 .nil) ⟨328,16,329,72⟩)
 .nil))
  .nil ⟨326,12,329,72⟩)
 .nil)) ⟨323,8,329,72⟩)
 .nil)) ⟨321,4,329,72⟩)
 (.cons (.ret (.var "labels" ⟨330,11,330,17⟩) ⟨330,4,330,17⟩)
 .nil)))
@[reducible] noncomputable def qd:Ss:=
 (.cons (.ite (.cmp (.var "worths" ⟨332,7,332,13⟩) .Eq (.list .nil ⟨332,17,332,19⟩) ⟨332,7,332,19⟩)
  (.cons (.ret (.ife (.cmp (.var "op" ⟨333,23,333,25⟩) .In (.tup (.cons (.cst (.str (Dy "x")) 0 ⟨333,30,333,33⟩) (.cons (.cst (.str (Dy "y")) 0 ⟨333,35,333,38⟩) .nil)) 0 ⟨333,29,333,39⟩) ⟨333,23,333,39⟩) (.cst .none 0 ⟨333,15,333,19⟩) (.bin (.bi .int ⟨333,45,333,48⟩ (.cons (.var "op" ⟨333,49,333,51⟩) .nil) ⟨333,45,333,52⟩) .Mod (.var "n" ⟨333,55,333,56⟩) ⟨333,45,333,56⟩) ⟨333,15,333,56⟩) ⟨333,8,333,56⟩)
 .nil)
  .nil ⟨332,4,333,56⟩)
 (.cons (.ite (.bool .Or (.cons (.cmp (.cst .none 0 ⟨334,7,334,11⟩) .In (.var "worths" ⟨334,15,334,21⟩) ⟨334,7,334,21⟩) (.cons (.cmp (.cst (.str (Dy "clash")) 0 ⟨334,25,334,32⟩) .In (.var "worths" ⟨334,36,334,42⟩) ⟨334,25,334,42⟩) .nil)) ⟨334,7,334,42⟩)
  (.cons (.ret (.ife (.cmp (.cst .none 0 ⟨335,23,335,27⟩) .In (.var "worths" ⟨335,31,335,37⟩) ⟨335,23,335,37⟩) (.cst .none 0 ⟨335,15,335,19⟩) (.cst (.str (Dy "clash")) 0 ⟨335,43,335,50⟩) ⟨335,15,335,50⟩) ⟨335,8,335,50⟩)
 .nil)
  .nil ⟨334,4,335,50⟩)
 (.cons (.ite (.cmp (.var "op" ⟨336,7,336,9⟩) .Eq (.cst (.str (Dy "neg")) 0 ⟨336,13,336,18⟩) ⟨336,7,336,18⟩)
  (.cons (.ret (.bin (.bin (.var "n" ⟨337,16,337,17⟩) .Sub (.sub (.var "worths" ⟨337,20,337,26⟩) (.cst (.int 0) 0 ⟨337,27,337,28⟩) ⟨337,20,337,29⟩) ⟨337,16,337,29⟩) .Mod (.var "n" ⟨337,33,337,34⟩) ⟨337,15,337,34⟩) ⟨337,8,337,34⟩)
 .nil)
  .nil ⟨336,4,337,34⟩)
 (.cons (.ret (.bin (.ife (.cmp (.var "op" ⟨338,37,338,39⟩) .Eq (.cst (.str (Dy "add")) 0 ⟨338,43,338,48⟩) ⟨338,37,338,48⟩) (.bin (.sub (.var "worths" ⟨338,12,338,18⟩) (.cst (.int 0) 0 ⟨338,19,338,20⟩) ⟨338,12,338,21⟩) .Add (.sub (.var "worths" ⟨338,24,338,30⟩) (.cst (.int 1) 0 ⟨338,31,338,32⟩) ⟨338,24,338,33⟩) ⟨338,12,338,33⟩) (.bin (.sub (.var "worths" ⟨338,54,338,60⟩) (.cst (.int 0) 0 ⟨338,61,338,62⟩) ⟨338,54,338,63⟩) .Mult (.sub (.var "worths" ⟨338,66,338,72⟩) (.cst (.int 1) 0 ⟨338,73,338,74⟩) ⟨338,66,338,75⟩) ⟨338,54,338,75⟩) ⟨338,12,338,75⟩) .Mod (.var "n" ⟨338,79,338,80⟩) ⟨338,11,338,80⟩) ⟨338,4,338,80⟩)
 .nil))))
@[reducible] noncomputable def o6:Ss:=
 (.cons (.asgs [(.name "found" ⟨340,4,340,9⟩),(.name "is_new" ⟨340,11,340,17⟩)] 0 ⟨340,4,340,17⟩ (.tup (.cons (.dict0 ⟨340,21,340,23⟩) (.cons (.cst (.bool true) 0 ⟨340,25,340,29⟩) .nil)) 0 ⟨340,20,340,30⟩) ⟨340,4,340,30⟩)
 (.cons (.while (.val (.var "is_new" ⟨341,10,341,16⟩))
  (.cons (.asg (.name "is_new" ⟨342,8,342,14⟩) (.cst (.bool false) 0 ⟨342,17,342,22⟩) ⟨342,8,342,22⟩)
 (.cons (.for (.name "t" ⟨343,12,343,13⟩) (.e (.var "terms" ⟨343,17,343,22⟩))
  (.cons (.asgs [(.name "here" ⟨344,12,344,16⟩),(.name "worth" ⟨344,18,344,23⟩)] 0 ⟨344,12,344,23⟩ (.tup (.cons (.meth (.var "found" ⟨344,27,344,32⟩) "get" ⟨344,27,344,36⟩ (.cons (.sub (.var "labels" ⟨344,37,344,43⟩) (.var "t" ⟨344,44,344,45⟩) ⟨344,37,344,46⟩) .nil) ⟨344,27,344,47⟩) (.cons (.fn .l_worth ⟨344,49,344,59⟩ (.cons (.sub (.var "t" ⟨344,60,344,61⟩) (.cst (.int 0) 0 ⟨344,62,344,63⟩) ⟨344,60,344,64⟩) (.cons (.lcomp (.meth (.var "found" ⟨344,67,344,72⟩) "get" ⟨344,67,344,76⟩ (.cons (.sub (.var "labels" ⟨344,77,344,83⟩) (.var "kid" ⟨344,84,344,87⟩) ⟨344,77,344,88⟩) .nil) ⟨344,67,344,89⟩) (.name "kid" ⟨344,94,344,97⟩) (.e (.slFrom (.var "t" ⟨344,101,344,102⟩) 1 ⟨344,103,344,104⟩ ⟨344,103,344,105⟩ ⟨344,101,344,106⟩)) .nil [(".0",.«local»),("kid",.«local»),("found",.free),("labels",.free)] ⟨344,66,344,107⟩) (.cons (.var "n" ⟨344,109,344,110⟩) .nil))) ⟨344,49,344,111⟩) .nil)) 0 ⟨344,26,344,112⟩) ⟨344,12,344,112⟩)
 (.cons (.asg (.name "late" ⟨345,12,345,16⟩) (.ife (.cmp (.var "worth" ⟨345,27,345,32⟩) .Is (.cst .none 0 ⟨345,36,345,40⟩) ⟨345,27,345,40⟩) (.var "here" ⟨345,19,345,23⟩) (.ife (.bool .Or (.cons (.cmp (.var "here" ⟨345,55,345,59⟩) .Is (.cst .none 0 ⟨345,63,345,67⟩) ⟨345,55,345,67⟩) (.cons (.cmp (.var "here" ⟨345,71,345,75⟩) .Eq (.var "worth" ⟨345,79,345,84⟩) ⟨345,71,345,84⟩) .nil)) ⟨345,55,345,84⟩) (.var "worth" ⟨345,46,345,51⟩) (.cst (.str (Dy "clash")) 0 ⟨345,90,345,97⟩) ⟨345,46,345,97⟩) ⟨345,19,345,97⟩) ⟨345,12,345,97⟩)
 (.cons (.ite (.cmp (.var "late" ⟨346,15,346,19⟩) .NotEq (.var "here" ⟨346,23,346,27⟩) ⟨346,15,346,27⟩)
  (.cons (.asgs [(.sub (.var "found" ⟨347,16,347,21⟩) (.sub (.var "labels" ⟨347,22,347,28⟩) (.var "t" ⟨347,29,347,30⟩) ⟨347,22,347,31⟩) ⟨347,16,347,32⟩),(.name "is_new" ⟨347,34,347,40⟩)] 0 ⟨347,16,347,40⟩ (.tup (.cons (.var "late" ⟨347,44,347,48⟩) (.cons (.cst (.bool true) 0 ⟨347,50,347,54⟩) .nil)) 0 ⟨347,43,347,55⟩) ⟨347,16,347,55⟩)
 .nil)
  .nil ⟨346,12,347,55⟩)
 .nil))) ⟨343,8,347,55⟩)
 .nil)) ⟨341,4,347,55⟩)
 (.cons (.ret (.var "found" ⟨348,11,348,16⟩) ⟨348,4,348,16⟩)
 .nil)))
@[reducible] noncomputable def tU:Ss:=
 (.cons (.asg (.name "terms" ⟨350,4,350,9⟩) (.lcomp (.meth (.attr (.var "heap" ⟨350,13,350,17⟩) "bank" ⟨350,13,350,22⟩) "term" ⟨350,13,350,27⟩ (.cons (.var "k" ⟨350,28,350,29⟩) .nil) ⟨350,13,350,30⟩) (.name "k" ⟨350,35,350,36⟩) (.range ⟨350,40,350,45⟩ (.meth (.var "heap" ⟨350,46,350,50⟩) "size" ⟨350,46,350,55⟩ .nil ⟨350,46,350,57⟩) ⟨350,40,350,58⟩) .nil [(".0",.«local»),("k",.«local»),("heap",.free)] ⟨350,12,350,59⟩) ⟨350,4,350,59⟩)
 (.cons (.asgs [(.name "labels" ⟨351,4,351,10⟩),(.name "leasts" ⟨351,12,351,18⟩)] 0 ⟨351,4,351,18⟩ (.tup (.cons (.fn .l_closed ⟨351,22,351,33⟩ (.cons (.var "terms" ⟨351,34,351,39⟩) (.cons (.var "told" ⟨351,41,351,45⟩) .nil)) ⟨351,22,351,46⟩) (.cons (.dict0 ⟨351,48,351,50⟩) .nil)) 0 ⟨351,21,351,51⟩) ⟨351,4,351,51⟩)
 (.cons (.asg (.name "worths" ⟨352,4,352,10⟩) (.fn .l_worths ⟨352,13,352,24⟩ (.cons (.var "terms" ⟨352,25,352,30⟩) (.cons (.var "labels" ⟨352,32,352,38⟩) (.cons (.var "n" ⟨352,40,352,41⟩) .nil))) ⟨352,13,352,42⟩) ⟨352,4,352,42⟩)
 (.cons (.for (.pair "k" ⟨353,8,353,9⟩ "t" ⟨353,11,353,12⟩ 0 ⟨353,8,353,12⟩) (.enum ⟨353,16,353,25⟩ (.var "terms" ⟨353,26,353,31⟩) ⟨353,16,353,32⟩)
  (.cons (.expr (.meth (.var "leasts" ⟨354,8,354,14⟩) "setdefault" ⟨354,8,354,25⟩ (.cons (.sub (.var "labels" ⟨354,26,354,32⟩) (.var "t" ⟨354,33,354,34⟩) ⟨354,26,354,35⟩) (.cons (.var "k" ⟨354,37,354,38⟩) .nil)) ⟨354,8,354,39⟩) ⟨354,8,354,39⟩)
 (.cons (.ite (.bool .Or (.cons (.cmp (.meth (.var "keeper" ⟨355,11,355,17⟩) "value" ⟨355,11,355,23⟩ (.cons (.var "k" ⟨355,24,355,25⟩) .nil) ⟨355,11,355,26⟩) .NotEq (.meth (.var "worths" ⟨355,30,355,36⟩) "get" ⟨355,30,355,40⟩ (.cons (.sub (.var "labels" ⟨355,41,355,47⟩) (.var "t" ⟨355,48,355,49⟩) ⟨355,41,355,50⟩) .nil) ⟨355,30,355,51⟩) ⟨355,11,355,51⟩) (.cons (.cmp (.meth (.var "heap" ⟨355,55,355,59⟩) "find" ⟨355,55,355,64⟩ (.cons (.var "k" ⟨355,65,355,66⟩) .nil) ⟨355,55,355,67⟩) .NotEq (.sub (.var "leasts" ⟨355,71,355,77⟩) (.sub (.var "labels" ⟨355,78,355,84⟩) (.var "t" ⟨355,85,355,86⟩) ⟨355,78,355,87⟩) ⟨355,71,355,88⟩) ⟨355,55,355,88⟩) .nil)) ⟨355,11,355,88⟩)
  (.cons (.ret (.cst .none 0 ⟨356,19,356,23⟩) ⟨356,12,356,23⟩)
 .nil)
  .nil ⟨355,8,356,23⟩)
 .nil)) ⟨353,4,356,23⟩)
 (.cons (.ite (.cmp (.meth (.var "keeper" ⟨357,7,357,13⟩) "clashes" ⟨357,7,357,21⟩ .nil ⟨357,7,357,23⟩) .NotEq (.bi .sorted ⟨357,27,357,33⟩ (.cons (.dsel "leasts" "worths" "late" ⟨357,35,357,41⟩ ⟨357,42,357,46⟩ ⟨357,35,357,47⟩ ⟨357,52,357,56⟩ ⟨357,60,357,66⟩ ⟨357,70,357,76⟩ ⟨357,70,357,80⟩ ⟨357,81,357,85⟩ ⟨357,70,357,86⟩ ⟨357,90,357,97⟩ ⟨357,70,357,97⟩ [(".0",.«local»),("late",.«local»),("leasts",.free),("worths",.free)] ⟨357,34,357,98⟩) .nil) ⟨357,27,357,99⟩) ⟨357,7,357,99⟩)
  (.cons (.ret (.cst .none 0 ⟨358,15,358,19⟩) ⟨358,8,358,19⟩)
 .nil)
  .nil ⟨357,4,358,19⟩)
 (.cons (.asg (.name "due" ⟨359,4,359,7⟩) (.list .nil ⟨359,10,359,12⟩) ⟨359,4,359,12⟩)
 (.cons (.for (.name "late" ⟨360,8,360,12⟩) (.e (.sortedGet "leasts" ⟨360,16,360,22⟩ ⟨360,23,360,29⟩ ⟨360,35,360,41⟩ ⟨360,35,360,45⟩ ⟨360,31,360,45⟩ ⟨360,16,360,46⟩))
  (.cons (.ite (.bool .And (.cons (.val (.isInt (.meth (.var "worths" ⟨361,22,361,28⟩) "get" ⟨361,22,361,32⟩ (.cons (.var "late" ⟨361,33,361,37⟩) .nil) ⟨361,22,361,38⟩) ⟨361,11,361,21⟩ ⟨361,40,361,43⟩ ⟨361,11,361,44⟩)) (.cons (.cmp (.meth (.var "labels" ⟨361,49,361,55⟩) "get" ⟨361,49,361,59⟩ (.cons (.tup (.cons (.bi .str ⟨361,61,361,64⟩ (.cons (.sub (.var "worths" ⟨361,65,361,71⟩) (.var "late" ⟨361,72,361,76⟩) ⟨361,65,361,77⟩) .nil) ⟨361,61,361,78⟩) .nil) 0 ⟨361,60,361,80⟩) .nil) ⟨361,49,361,81⟩) .NotEq (.var "late" ⟨361,85,361,89⟩) ⟨361,49,361,89⟩) .nil)) ⟨361,11,361,89⟩)
  (.cons (.expr (.meth (.var "due" ⟨362,12,362,15⟩) "append" ⟨362,12,362,22⟩ (.cons (.tup (.cons (.sub (.var "terms" ⟨362,24,362,29⟩) (.sub (.var "leasts" ⟨362,30,362,36⟩) (.var "late" ⟨362,37,362,41⟩) ⟨362,30,362,42⟩) ⟨362,24,362,43⟩) (.cons (.tup (.cons (.bi .str ⟨362,46,362,49⟩ (.cons (.sub (.var "worths" ⟨362,50,362,56⟩) (.var "late" ⟨362,57,362,61⟩) ⟨362,50,362,62⟩) .nil) ⟨362,46,362,63⟩) .nil) 0 ⟨362,45,362,65⟩) .nil)) 0 ⟨362,23,362,66⟩) .nil) ⟨362,12,362,67⟩) ⟨362,12,362,67⟩)
 .nil)
  .nil ⟨361,8,362,67⟩)
 .nil) ⟨360,4,362,67⟩)
 (.cons (.ret (.var "due" ⟨363,11,363,14⟩) ⟨363,4,363,14⟩)
 .nil))))))))
@[reducible] noncomputable def ll:Ss:=
 (.cons (.asgs [(.name "tape" ⟨365,4,365,8⟩),(.name "heap" ⟨365,10,365,14⟩),(.name "told" ⟨365,16,365,20⟩)] 0 ⟨365,4,365,20⟩ (.tup (.cons (.list (.cons (.lcomp (.bin (.bi .int ⟨365,26,365,29⟩ (.cons (.var "cell" ⟨365,30,365,34⟩) .nil) ⟨365,26,365,35⟩) .Mod (.cst (.int 9973) 0 ⟨365,38,365,42⟩) ⟨365,26,365,42⟩) (.name "cell" ⟨365,47,365,51⟩) (.e (.slTo (.var "script" ⟨365,55,365,61⟩) 50 ⟨365,63,365,65⟩ ⟨365,62,365,65⟩ ⟨365,55,365,66⟩)) .nil [(".0",.«local»),("cell",.«local»),("int",.globalImplicit)] ⟨365,25,365,67⟩) (.cons (.cst (.int 0) 0 ⟨365,69,365,70⟩) .nil)) ⟨365,24,365,71⟩) (.cons (.new .heap ⟨365,73,365,77⟩ .nil ⟨365,73,365,79⟩) (.cons (.list .nil ⟨365,81,365,83⟩) .nil))) 0 ⟨365,23,365,84⟩) ⟨365,4,365,84⟩)
 (.cons (.asg (.name "n" ⟨366,4,366,5⟩) (.bin (.cst (.int 2) 0 ⟨366,8,366,9⟩) .Add (.fn .l_dip ⟨366,12,366,20⟩ (.cons (.var "tape" ⟨366,21,366,25⟩) (.cons (.cst (.int 6) 0 ⟨366,27,366,28⟩) .nil)) ⟨366,12,366,29⟩) ⟨366,8,366,29⟩) ⟨366,4,366,29⟩)
 (.cons (.asgs [(.name "keeper" ⟨367,4,367,10⟩),(.name "some" ⟨367,12,367,16⟩)] 0 ⟨367,4,367,16⟩ (.tup (.cons (.new .keeper ⟨367,20,367,26⟩ (.cons (.var "heap" ⟨367,27,367,31⟩) (.cons (.new .consts ⟨367,33,367,39⟩ (.cons (.var "n" ⟨367,40,367,41⟩) .nil) ⟨367,33,367,42⟩) .nil)) ⟨367,20,367,43⟩) (.cons (.list .nil ⟨367,45,367,47⟩) .nil)) 0 ⟨367,19,367,48⟩) ⟨367,4,367,48⟩)
 (.cons (.for (.name "lap" ⟨368,8,368,11⟩) (.range ⟨368,15,368,20⟩ (.bin (.cst (.int 2) 0 ⟨368,21,368,22⟩) .Add (.fn .l_dip ⟨368,25,368,33⟩ (.cons (.var "tape" ⟨368,34,368,38⟩) (.cons (.cst (.int 3) 0 ⟨368,40,368,41⟩) .nil)) ⟨368,25,368,42⟩) ⟨368,21,368,42⟩) ⟨368,15,368,43⟩)
  (.cons (.expr (.meth (.var "some" ⟨369,8,369,12⟩) "append" ⟨369,8,369,19⟩ (.cons (.fn .l_term ⟨369,20,369,29⟩ (.cons (.var "tape" ⟨369,30,369,34⟩) (.cons (.cst (.int 2) 0 ⟨369,36,369,37⟩) .nil)) ⟨369,20,369,38⟩) .nil) ⟨369,8,369,39⟩) ⟨369,8,369,39⟩)
 (.cons (.expr (.meth (.var "heap" ⟨370,8,370,12⟩) "put" ⟨370,8,370,16⟩ (.cons (.sub (.var "some" ⟨370,17,370,21⟩) (.var "lap" ⟨370,22,370,25⟩) ⟨370,17,370,26⟩) .nil) ⟨370,8,370,27⟩) ⟨370,8,370,27⟩)
 .nil)) ⟨368,4,370,27⟩)
 (.cons (.for (.name "lap" ⟨371,8,371,11⟩) (.range ⟨371,15,371,20⟩ (.fn .l_dip ⟨371,21,371,29⟩ (.cons (.var "tape" ⟨371,30,371,34⟩) (.cons (.cst (.int 4) 0 ⟨371,36,371,37⟩) .nil)) ⟨371,21,371,38⟩) ⟨371,15,371,39⟩)
  (.cons (.asgs [(.name "one" ⟨372,8,372,11⟩),(.name "other" ⟨372,13,372,18⟩)] 0 ⟨372,8,372,18⟩ (.tup (.cons (.sub (.var "some" ⟨372,22,372,26⟩) (.fn .l_dip ⟨372,27,372,35⟩ (.cons (.var "tape" ⟨372,36,372,40⟩) (.cons (.bi .len ⟨372,42,372,45⟩ (.cons (.var "some" ⟨372,46,372,50⟩) .nil) ⟨372,42,372,51⟩) .nil)) ⟨372,27,372,52⟩) ⟨372,22,372,53⟩) (.cons (.sub (.var "some" ⟨372,55,372,59⟩) (.fn .l_dip ⟨372,60,372,68⟩ (.cons (.var "tape" ⟨372,69,372,73⟩) (.cons (.bi .len ⟨372,75,372,78⟩ (.cons (.var "some" ⟨372,79,372,83⟩) .nil) ⟨372,75,372,84⟩) .nil)) ⟨372,60,372,85⟩) ⟨372,55,372,86⟩) .nil)) 0 ⟨372,21,372,87⟩) ⟨372,8,372,87⟩)
 (.cons (.expr (.meth (.var "told" ⟨373,8,373,12⟩) "append" ⟨373,8,373,19⟩ (.cons (.tup (.cons (.var "one" ⟨373,21,373,24⟩) (.cons (.var "other" ⟨373,26,373,31⟩) .nil)) 0 ⟨373,20,373,32⟩) .nil) ⟨373,8,373,33⟩) ⟨373,8,373,33⟩)
 (.cons (.expr (.meth (.var "heap" ⟨374,8,374,12⟩) "merge" ⟨374,8,374,18⟩ (.cons (.meth (.var "heap" ⟨374,19,374,23⟩) "put" ⟨374,19,374,27⟩ (.cons (.var "one" ⟨374,28,374,31⟩) .nil) ⟨374,19,374,32⟩) (.cons (.meth (.var "heap" ⟨374,34,374,38⟩) "put" ⟨374,34,374,42⟩ (.cons (.var "other" ⟨374,43,374,48⟩) .nil) ⟨374,34,374,49⟩) (.cons (.tup (.cons (.cst (.str (Dy "told")) 0 ⟨374,52,374,58⟩) (.cons (.bin (.cst (.str (Dy "t")) 0 ⟨374,60,374,63⟩) .Add (.bi .str ⟨374,66,374,69⟩ (.cons (.var "lap" ⟨374,70,374,73⟩) .nil) ⟨374,66,374,74⟩) ⟨374,60,374,74⟩) .nil)) 0 ⟨374,51,374,75⟩) .nil))) ⟨374,8,374,76⟩) ⟨374,8,374,76⟩)
 (.cons (.ite (.cmp (.fn .l_dip ⟨375,11,375,19⟩ (.cons (.var "tape" ⟨375,20,375,24⟩) (.cons (.cst (.int 3) 0 ⟨375,26,375,27⟩) .nil)) ⟨375,11,375,28⟩) .Eq (.cst (.int 0) 0 ⟨375,32,375,33⟩) ⟨375,11,375,33⟩)
  (.cons (.expr (.meth (.var "heap" ⟨376,12,376,16⟩) "settle" ⟨376,12,376,23⟩ .nil ⟨376,12,376,25⟩) ⟨376,12,376,25⟩)
 (.cons (.expr (.meth (.var "keeper" ⟨377,12,377,18⟩) "settle" ⟨377,12,377,25⟩ .nil ⟨377,12,377,27⟩) ⟨377,12,377,27⟩)
 .nil))
  .nil ⟨375,8,377,27⟩)
 .nil)))) ⟨371,4,377,27⟩)
 (.cons (.expr (.meth (.var "heap" ⟨378,4,378,8⟩) "settle" ⟨378,4,378,15⟩ .nil ⟨378,4,378,17⟩) ⟨378,4,378,17⟩)
 (.cons (.expr (.meth (.var "keeper" ⟨379,4,379,10⟩) "settle" ⟨379,4,379,17⟩ .nil ⟨379,4,379,19⟩) ⟨379,4,379,19⟩)
 (.cons (.for (.name "lap" ⟨380,8,380,11⟩) (.range ⟨380,15,380,20⟩ (.cst (.int 2) 0 ⟨380,21,380,22⟩) ⟨380,15,380,23⟩)
  (.cons (.asgs [(.name "due" ⟨381,8,381,11⟩),(.name "elder" ⟨381,13,381,18⟩)] 0 ⟨381,8,381,18⟩ (.tup (.cons (.fn .l_due ⟨381,22,381,30⟩ (.cons (.var "heap" ⟨381,31,381,35⟩) (.cons (.var "keeper" ⟨381,37,381,43⟩) (.cons (.var "told" ⟨381,45,381,49⟩) (.cons (.var "n" ⟨381,51,381,52⟩) .nil)))) ⟨381,22,381,53⟩) (.cons (.bi .len ⟨381,55,381,58⟩ (.cons (.attr (.var "keeper" ⟨381,59,381,65⟩) "told" ⟨381,59,381,70⟩) .nil) ⟨381,55,381,71⟩) .nil)) 0 ⟨381,21,381,72⟩) ⟨381,8,381,72⟩)
 (.cons (.ite (.bool .Or (.cons (.cmp (.var "due" ⟨382,11,382,14⟩) .Is (.cst .none 0 ⟨382,18,382,22⟩) ⟨382,11,382,22⟩) (.cons (.cmp (.meth (.var "keeper" ⟨382,26,382,32⟩) "fold" ⟨382,26,382,37⟩ .nil ⟨382,26,382,39⟩) .NotEq (.bi .len ⟨382,43,382,46⟩ (.cons (.var "due" ⟨382,47,382,50⟩) .nil) ⟨382,43,382,51⟩) ⟨382,26,382,51⟩) (.cons (.cmp (.bi .len ⟨382,55,382,58⟩ (.cons (.attr (.var "keeper" ⟨382,59,382,65⟩) "told" ⟨382,59,382,70⟩) .nil) ⟨382,55,382,71⟩) .NotEq (.bin (.var "elder" ⟨382,75,382,80⟩) .Add (.bi .len ⟨382,83,382,86⟩ (.cons (.var "due" ⟨382,87,382,90⟩) .nil) ⟨382,83,382,91⟩) ⟨382,75,382,91⟩) ⟨382,55,382,91⟩) (.cons (.not (.val (.meth (.var "heap" ⟨382,100,382,104⟩) "is_settled" ⟨382,100,382,115⟩ .nil ⟨382,100,382,117⟩)) ⟨382,96,382,117⟩) .nil)))) ⟨382,11,382,118⟩)
  (.cons (.ret (.cst (.bool false) 0 ⟨383,19,383,24⟩) ⟨383,12,383,24⟩)
 .nil)
  .nil ⟨382,8,383,24⟩)
 (.cons (.ite (.cmp (.lcomp (.meth (.attr (.var "keeper" ⟨384,12,384,18⟩) "told" ⟨384,12,384,23⟩) "get" ⟨384,12,384,27⟩ (.cons (.bin (.cst (.str (Dy "fold")) 0 ⟨384,28,384,34⟩) .Add (.bi .str ⟨384,37,384,40⟩ (.cons (.bin (.var "elder" ⟨384,41,384,46⟩) .Add (.var "k" ⟨384,49,384,50⟩) ⟨384,41,384,50⟩) .nil) ⟨384,37,384,51⟩) ⟨384,28,384,51⟩) .nil) ⟨384,12,384,52⟩) (.name "k" ⟨384,57,384,58⟩) (.range ⟨384,62,384,67⟩ (.bi .len ⟨384,68,384,71⟩ (.cons (.var "due" ⟨384,72,384,75⟩) .nil) ⟨384,68,384,76⟩) ⟨384,62,384,77⟩) .nil [(".0",.«local»),("k",.«local»),("str",.globalImplicit),("elder",.free),("keeper",.free)] ⟨384,11,384,78⟩) .NotEq (.var "due" ⟨384,82,384,85⟩) ⟨384,11,384,85⟩)
  (.cons (.ret (.cst (.bool false) 0 ⟨385,19,385,24⟩) ⟨385,12,385,24⟩)
 .nil)
  .nil ⟨384,8,385,24⟩)
 (.cons (.asg (.name "told" ⟨386,8,386,12⟩) (.bin (.var "told" ⟨386,15,386,19⟩) .Add (.var "due" ⟨386,22,386,25⟩) ⟨386,15,386,25⟩) ⟨386,8,386,25⟩)
 .nil)))) ⟨380,4,386,25⟩)
 (.cons (.ret (.test (.cmp (.fn .l_due ⟨387,11,387,19⟩ (.cons (.var "heap" ⟨387,20,387,24⟩) (.cons (.var "keeper" ⟨387,26,387,32⟩) (.cons (.var "told" ⟨387,34,387,38⟩) (.cons (.var "n" ⟨387,40,387,41⟩) .nil)))) ⟨387,11,387,42⟩) .IsNot (.cst .none 0 ⟨387,50,387,54⟩) ⟨387,11,387,54⟩)) ⟨387,4,387,54⟩)
 .nil)))))))))
@[reducible] noncomputable def dk(f:Fn):Ss:=[oV,rG,mX,oW,rH,pY,pZ,lQ,oZ,mY,rI,tQ,rJ,rK,rL,mZ,vJ,rM,rN,rO,rP,rQ,rR,qa,m7,m8,rS,rT,rU,tR,tS,m9,rV,lR,qb,rW,o3,kD,nc,nf,lS,qc,o4,tT,rX,o5,qd,o6,tU].getD f.ctorIdx .nil
noncomputable def Fn.params(f:Fn):List String:=[
 ["op"],
 ["self","n"],
 ["self","op","values"],
 ["self","one","other"],
 ["self","heap","analysis"],
 ["self","c"],
 ["self"],
 ["self","c"],
 ["self"],
 ["self"],
 ["self"],
 ["text"],
 ["self"],
 ["self"],
 ["self","op","kids"],
 ["self","op"],
 ["self","n"],
 ["self","n"],
 ["self","n"],
 ["self"],
 ["self"],
 ["self"],
 ["self","a"],
 ["self","a","b"],
 ["self","a"],
 ["self"],
 ["self"],
 ["self"],
 ["self","n"],
 ["self","op","numbers"],
 ["self","term"],
 ["self","n"],
 ["self","n"],
 ["self","a","b"],
 ["self","a","b","reason"],
 ["self","a","b","reason"],
 ["self"],
 ["self"],
 ["self"],
 ["self","c"],
 ["self","c"],
 ["self","c"],
 [],
 ["tape","many"],
 ["tape","deep"],
 ["terms","told"],
 ["op","worths","n"],
 ["terms","labels","n"],
 ["heap","keeper","told","n"]].getD f.ctorIdx []
noncomputable def Fn.sco(f:Fn):az:=[
 [("op",.«local»),("digits",.«local»),("len",.globalImplicit),("int",.globalImplicit)],
 [("self",.«local»),("n",.«local»)],
 [("self",.«local»),("op",.«local»),("values",.«local»),("number",.«local»),("len",.globalImplicit),("whole_of",.globalImplicit)],
 [("self",.«local»),("one",.«local»),("other",.«local»)],
 [("self",.«local»),("heap",.«local»),("analysis",.«local»)],
 [("self",.«local»),("c",.«local»)],
 [("self",.«local»),("found",.«local»),("c",.«local»),("kept",.«local»),("sorted",.globalImplicit)],
 [("self",.cell),("c",.«local»),("found",.«local»),("node",.«local»),("kids",.«local»)],
 [("self",.«local»),("row",.«local»),("c",.«local»),("waiting",.«local»),("spot",.«local»),("found",.«local»),("user",.«local»),("late",.«local»),("list",.globalImplicit),("len",.globalImplicit)],
 [("self",.cell)],
 [("self",.«local»),("many",.«local»),("c",.«local»),("value",.«local»),("number",.«local»),("label",.«local»),("isinstance",.globalImplicit),("int",.globalImplicit),("str",.globalImplicit),("len",.globalImplicit)],
 [("text",.«local»)],
 [("self",.«local»)],
 [("self",.«local»),("len",.globalImplicit)],
 [("self",.cell),("op",.«local»),("kids",.«local»),("node",.«local»),("kid",.«local»),("tuple",.globalImplicit),("len",.globalImplicit),("TermFault",.globalImplicit),("sum",.globalImplicit),("max",.globalImplicit)],
 [("self",.«local»),("op",.«local»),("is_op",.globalImplicit),("TermFault",.globalImplicit)],
 [("self",.«local»),("n",.«local»)],
 [("self",.«local»),("n",.«local»)],
 [("self",.«local»),("n",.«local»),("below",.«local»),("stack",.«local»),("kid",.«local»),("made",.cell),("k",.«local»),("len",.globalImplicit),("sorted",.globalImplicit),("tuple",.globalImplicit)],
 [("self",.«local»)],
 [("self",.«local»),("len",.globalImplicit)],
 [("self",.«local»),("len",.globalImplicit)],
 [("self",.«local»),("a",.«local»)],
 [("self",.«local»),("a",.«local»),("b",.«local»),("kept",.«local»),("gone",.«local»),("sorted",.globalImplicit)],
 [("self",.«local»),("a",.«local»),("sorted",.globalImplicit)],
 [("self",.cell),("range",.globalImplicit),("len",.globalImplicit)],
 [("self",.«local»),("Bank",.globalImplicit),("Unions",.globalImplicit)],
 [("self",.«local»)],
 [("self",.cell),("n",.«local»),("tuple",.globalImplicit)],
 [("self",.cell),("op",.«local»),("numbers",.«local»),("n",.«local»),("c",.«local»),("sorted",.globalImplicit),("set",.globalImplicit)],
 [("self",.cell),("term",.«local»),("tuple",.globalImplicit)],
 [("self",.«local»),("n",.«local»),("other",.«local»)],
 [("self",.«local»),("n",.«local»)],
 [("self",.«local»),("a",.«local»),("b",.«local»)],
 [("self",.«local»),("a",.«local»),("b",.«local»),("reason",.«local»)],
 [("self",.«local»),("a",.«local»),("b",.«local»),("reason",.«local»),("merged",.«local»),("kept",.«local»),("gone",.«local»),("len",.globalImplicit)],
 [("self",.«local»),("len",.globalImplicit)],
 [("self",.«local»),("len",.globalImplicit)],
 [("self",.«local»)],
 [("self",.«local»),("c",.«local»)],
 [("self",.cell),("c",.«local»),("sorted",.globalImplicit),("set",.globalImplicit)],
 [("self",.«local»),("c",.«local»),("sorted",.globalImplicit),("set",.globalImplicit)],
 [],
 [("tape",.«local»),("many",.«local»),("cells",.«local»),("spot",.«local»),("len",.globalImplicit)],
 [("tape",.«local»),("deep",.«local»),("way",.«local»),("kid",.«local»),("_law_dip",.globalImplicit),("_law_leaves",.globalImplicit),("_law_term",.globalImplicit)],
 [("terms",.«local»),("told",.«local»),("t",.«local»),("labels",.cell),("is_new",.«local»),("seen",.«local»),("one",.«local»),("other",.«local»),("gone",.«local»),("kept",.«local»),("dict",.globalImplicit),("enumerate",.globalImplicit),("tuple",.globalImplicit)],
 [("op",.«local»),("worths",.«local»),("n",.«local»),("int",.globalImplicit)],
 [("terms",.«local»),("labels",.cell),("n",.«local»),("found",.cell),("is_new",.«local»),("t",.«local»),("here",.«local»),("worth",.«local»),("late",.«local»),("_law_worth",.globalImplicit)],
 [("heap",.cell),("keeper",.«local»),("told",.«local»),("n",.«local»),("k",.«local»),("terms",.«local»),("labels",.«local»),("leasts",.cell),("worths",.cell),("t",.«local»),("late",.«local»),("due",.«local»),("range",.globalImplicit),("_law_closed",.globalImplicit),("_law_worths",.globalImplicit),("enumerate",.globalImplicit),("sorted",.globalImplicit),("isinstance",.globalImplicit),("int",.globalImplicit),("str",.globalImplicit)]].getD f.ctorIdx []
noncomputable def C8:List String:=["script"]
noncomputable def jn:az:=[("script",.«local»),("tape",.«local»),("heap",.«local»),("told",.«local»),("n",.«local»),("keeper",.cell),("some",.«local»),("lap",.«local»),("one",.«local»),("other",.«local»),("due",.«local»),("elder",.cell),("Heap",.globalImplicit),("_law_dip",.globalImplicit),("Keeper",.globalImplicit),("Consts",.globalImplicit),("range",.globalImplicit),("_law_term",.globalImplicit),("len",.globalImplicit),("str",.globalImplicit),("_law_due",.globalImplicit)]
theorem eS.mono{w:Fs}{s s':DA}{L L':ao}{q:al}{o:PO}(V:VM s s' L L')(hq:L.own (L.ad q)=some q)
 (hk:∀b ob,L.own b=some q->s.heap.get? b=some ob->s'.heap.get? b=some ob/\L'.own b=some q) (h:eS w L s.heap q o):eS w L' s'.heap q o:=by
 have hg:∀{ob},s.heap.get? (L.ad q)=some ob->s'.heap.get? (L'.ad q)=some ob:=λe=>by rw [(V.ref q hq).1];exact (hk _ _ hq e).1
 cases o with
 | froz l=>
  obtain ⟨items,⟨ob,h1,h3⟩,h2⟩:=h;exact ⟨items,⟨ob,hg h1,h3⟩,h2.mono V⟩
 | list l=>exact bf h λitems n h1 h2=>⟨items,n,hg h1,h2.mono V⟩
 | dict d=>exact eB h λes n h1 h2 h3=>⟨es,n,hg h1,h2.mono V,h3⟩
 | inst c fs=>
  obtain ⟨dx,ob,m,h1,h2,h3,h4,h5,h6,h7,h8,h9,h10,h11⟩:=h;exact iW (id h7) λod es ep e1 e2=>⟨dx,ob,m,hg h1,h2,h3,h4,(hk _ _ h5 e1).2,by rw [(V.ref q hq).1];exact h6,h7.at (λo' e=>(hk _ _ h5 e).1),
   λx v hx=>(h8 x v hx).imp λpv a=>⟨a.1,a.2.mono V⟩,h9,h10,h11⟩
theorem Wd.grow{c:Cx}{s s':DA}{σ:aa}{L:ao}(W:Wd c s σ L)(hz:s.heap.objs.size<=s'.heap.objs.size)(hk:∀b o,s.heap.get? b=some o->s'.heap.get? b=some o)
 (hg:s'.gens=s.gens) (ho:s'.os=s.os):Wd c s' σ L/\Ex bZ s s' L L:=by
 have E:Ex bZ s s' L L:=⟨hz,λ_ _=>rfl,λb o _ _ e=>hk b o e,λp hp=>⟨rfl,W.adlt hp⟩⟩;exact ⟨⟨λb o e=>hk b o (W.keep b o e),DM W.size0 hz,hg.trans W.gens,ho.trans W.os,W.old,λb hb=>W.fresh b (DM hz hb),W.live,
  λp o hp=>eS.mono E.vm0 (W.own hp) (λb ob hb e=>⟨hk b ob e,hb⟩) (W.objs p o hp),W.fin⟩,E⟩
theorem Wd.fin_set{c:Cx}{s:DA}{σ:aa}{L:ao}(W:Wd c s σ L)(p:al)(o:PO):∃N,∀n,N<=n->σ.set p o (.loc n)=none:=
 W.fin.elim λN hN=>(zJ p).elim λm hm=>⟨max N m,λn hn=>(aa.set_ne σ o (hm n (DM (Nat.le_max_right _ _) hn))).trans (hN n (DM (Nat.le_max_left _ _) hn))⟩
theorem Wd.change{c:Cx}{s s':DA}{σ:aa}{L L':ao}(W:Wd c s σ L)(p:al)(o:PO)(hnf:∀l,σ p≠some (.froz l))(hz:s.heap.objs.size<=s'.heap.objs.size)
 (hk:∀b ob,L.own b≠some p->s.heap.get? b=some ob->s'.heap.get? b=some ob)
 (hown:∀b,b < s.heap.objs.size->L'.own b=L.own b) (hown2:∀b,s.heap.objs.size<=b->L'.own b=none\/L'.own b=some p) (hown3:∀b,s'.heap.objs.size<=b->L'.own b=none)
 (had:∀q,q≠p->L'.ad q=L.ad q) (hadp:L.own (L.ad p)=some p->L'.ad p=L.ad p) (hp:L'.own (L'.ad p)=some p)
 (hV:VM s s' L L'->eS c.w L' s'.heap p o) (hg:s'.gens=s.gens) (ho:s'.os=s.os):Wd c s' (σ.set p o) L'/\Ex bZ s s' L L':=by
 have E:Ex bZ s s' L L':=⟨hz,hown,λb ob _ hb e=>hk b ob (hb▸nofun) e,λq hq=>⟨by
  by_cases e:q=p
  · rw [e] at hq ⊢;exact hadp hq
  · exact had q e,W.adlt hq⟩⟩
 have hlive:∀q,q≠p->(L'.own (L'.ad q)=some q↔L.own (L.ad q)=some q):=λq hq=>by
  rw [had q hq];rcases FP (L.ad q) s.heap.objs.size with h | h
  · rw [hown _ h]
  · rw [W.fresh _ h];rcases hown2 _ h with e | e
    · rw [e]
    · rw [e];exact ⟨λx=>absurd (DN x).symm hq,nofun⟩
 refine ⟨⟨λb ob e=>hk b ob (λe2=>?_) (W.keep b ob e),DM W.size0 hz,hg.trans W.gens,ho.trans W.os,λb ob' hb=>?_,hown3,λq=>?_,λq oq hq=>?_,W.fin_set p o⟩,E⟩
 · rcases W.old b ob e with h | ⟨q,l,h1,h2⟩
   · exact nomatch h.symm.trans e2
   · exact hnf l (DN (h1.symm.trans e2)▸h2)
 · rw [hown b (DI (Ec hb) W.size0)];exact (W.old b ob' hb).imp_right λh=>h.elim λq h=>h.elim λl h=>⟨q,l,h.1,(aa.set_ne σ o λ(e:q=p)=>hnf l (e▸h.2)).trans h.2⟩
 · by_cases e:q=p
   · rw [e];exact ⟨λ_=>hp,λ_=>⟨o,aa.set_self _ _ _⟩⟩
   · rw [hlive q e,← W.live q,aa.set_ne σ o e]
 · by_cases e:q=p
   · rw [e,aa.set_self] at hq;rw [e];exact DN hq▸hV E.vm0
   · rw [aa.set_ne σ o e] at hq;have hq':=W.own hq;exact eS.mono E.vm0 hq' (λb ob hb eb=>⟨hk b ob (λx=>e (DN (hb.symm.trans x))) eb,(hown b (Ec eb)).trans hb⟩) (W.objs q oq hq)
noncomputable def ao.add(L:ao)(p:al)(a:Nat):ao:=⟨λq=>if q=p then a else L.ad q,λb=>if b=a then some p else L.own b⟩
theorem ao.add_ad(L:ao)(p:al)(a:Nat):(L.add p a).ad p=a:=if_pos rfl
theorem ao.add_own(L:ao)(p:al)(a:Nat):(L.add p a).own a=some p:=if_pos rfl
theorem ao.add_ne(L:ao)(p:al){a b:Nat}(h:b≠a):(L.add p a).own b=L.own b:=if_neg h
theorem Wd.alloc{c:Cx}{s s':DA}{σ:aa}{L:ao}(W:Wd c s σ L)(p:al)(hp:σ p=none)(a:Nat)(o:PO)(ha:s.heap.objs.size<=a)(haz:a < s'.heap.objs.size)
 (hk:∀b ob,s.heap.get? b=some ob->s'.heap.get? b=some ob) (hV:VM s s' L (L.add p a)->eS c.w (L.add p a) s'.heap p o) (hg:s'.gens=s.gens) (ho:s'.os=s.os) :
 Wd c s' (σ.set p o) (L.add p a)/\Ex bZ s s' L (L.add p a)/\ak (L.add p a) s'.heap (.ref p) (.ref a):=by
 have hv:(L.add p a).own ((L.add p a).ad p)=some p:=by rw [L.add_ad];exact L.add_own p a
 have R:=W.change (s':=s') (L':=L.add p a) p o (by rw [hp];exact nofun) (D9 (DC ha haz)) (λb ob _ e=>hk b ob e) (λb hb=>L.add_ne p (D1 (DI hb ha))) (λb hb=>by
  by_cases e:b=a
  · exact .inr (e▸L.add_own p a)
  · exact .inl ((L.add_ne p e).trans (W.fresh b hb)))
  (λb hb=>(L.add_ne p (EY (DI haz hb))).trans (W.fresh b (DM ha (DM (D9 haz) hb))))
  (λq hq=>if_neg hq) (λe=>((W.live p).mpr e).elim λo' h'=>nomatch hp.symm.trans h') hv hV hg ho
 exact ⟨R.1,R.2,by rw [L.add_ad],hv⟩
inductive AR(env:Env)(s:DA)(L:ao)(x:String)(v:PV):Prop
 | mk (a pv):env.cells.lookup (Dy x)=some a->s.heap.IsCell a (some pv)->ak L s.heap v pv->AR env s L x v
inductive fh(c:Cx)(s:DA)(L:ao)(a:Ep):Prop
 | mk:L.own a=none->c.h₀.get? a=none->∀v,s.heap.IsCell a v->fh c s L a
structure ax(c:Cx)(env:Env)(sc:az)(s:DA)(L:ao)(ρ:af):Prop where
 kind:env.scope.kind=.function
 names:env.scope.names=sc.map λx=>(Dy x.1,x.2)
 glob:env.globals=mainGlobals
 bi:env.builtins=builtinsNs
 loc:∃m,s.heap.Ns env.locals m/\∀x v,ρ x=some v->sc.lookup x=some .local->∃pv,m (Dy x)=some pv/\ak L s.heap v pv
 cel:∀x v,ρ x=some v->sc.lookup x≠some .local->(sc.lookup x=some .cell\/sc.lookup x=some .free)/\AR env s L x v
 cells:∀x,sc.lookup x=some .cell->∃a v,env.cells.lookup (Dy x)=some a/\s.heap.IsCell a v
 locown:L.own env.locals=none
 locold:c.h₀.get? env.locals=none
 cellown:∀x a,env.cells.lookup x=some a->fh c s L a
 cellinj:∀x y a,env.cells.lookup x=some a->env.cells.lookup y=some a->x=y
theorem cA{α:Type}:∀(l:List (String×α)) (x:String),(l.map λy=>(Dy y.1,y.2)).lookup (Dy x)=l.lookup x
 | [],_=>rfl
 | (y,v)::r,x=>by
  have:(Dy x == Dy y)=(x == y):=Hv.mpr (by rw [beq_iff_eq,beq_iff_eq,Str.ofString_inj]);rw [E1,ET,ET,this,cA r x]
theorem ax.kindOf{c:Cx}{env:Env}{sc:az}{s:DA}{L:ao}{ρ:af}(F:ax c env sc s L ρ)(x:String):env.kindOf (Dy x)=sc.lookup x:=by
 unfold Env.kindOf;rw [F.names,cA]
theorem IsCell.keep{h h':EI}{a:Ep}{v:Option DF}(x:h.IsCell a v)(k:∀o,h.get? a=some o->h'.get? a=some o):h'.IsCell a v:=
 x.imp λo h=>⟨k o h.1,h.2⟩
theorem fh.own{c:Cx}{s:DA}{L:ao}{a:Ep}(h:fh c s L a):L.own a=none:=h.casesOn λh _ _ _=>h
theorem fh.old{c:Cx}{s:DA}{L:ao}{a:Ep}(h:fh c s L a):c.h₀.get? a=none:=h.casesOn λ_ h _ _=>h
theorem fh.cell{c:Cx}{s:DA}{L:ao}{a:Ep}(h:fh c s L a):∃v,s.heap.IsCell a v:=h.casesOn λ_ _ v h=>⟨v,h⟩
theorem fh.mono{c:Cx}{s s':DA}{L L':ao}(X:Ex bZ s s' L L'){a:Ep}(h:fh c s L a):fh c s' L' a:=
 h.casesOn λh1 h2 v h3=>⟨(X.own _ (h3.elim λ_ h=>Ec h.1)).trans h1,h2,v,IsCell.keep h3 λo e=>X.keep _ _ id h1 e⟩
theorem ax.mono{c:Cx}{env:Env}{sc:az}{s s':DA}{L L':ao}{ρ:af}(F:ax c env sc s L ρ)(X:Ex bZ s s' L L'):ax c env sc s' L' ρ where
 kind:=F.kind
 names:=F.names
 glob:=F.glob
 bi:=F.bi
 loc:=F.loc.imp λm h=>⟨iW h.1 λo es ep ho r=>⟨o,es,ep,X.keep _ _ id F.locown ho,r⟩,λx v hx hl=>(h.2 x v hx hl).imp λpv h=>⟨h.1,h.2.mono X.vm0⟩⟩
 cel:=λx v hx hl=>(F.cel x v hx hl).imp_right λh=>h.casesOn λa pv h1 h2 h3=>⟨a,pv,h1,IsCell.keep h2 λo e=>X.keep _ _ id (F.cellown _ a h1).own e,h3.mono X.vm0⟩
 cells:=λx hx=>(F.cells x hx).imp λa h=>h.imp λv h=>⟨h.1,IsCell.keep h.2 λo e=>X.keep _ _ id (F.cellown _ a h.1).own e⟩
 locown:=F.loc.elim λm h=>(X.own _ h.1.lt).trans F.locown
 locold:=F.locold
 cellown:=λx a h=>(F.cellown x a h).mono X
 cellinj:=F.cellinj
inductive tV(h:EI)(a:Ep)(ps:List String)(sc:az)(body:Ss):Prop
 | mk:∀fd,h.get? a=some ⟨.type "function",none,.func fd,#[]⟩->fd.body=.stmts body.py->fd.scope.kind=.function->(fd.scope.names=sc.map (λx=>(Dy x.1,x.2)))->fd.scope.isGenerator=false->fd.scope.isCoroutine=false->fd.globals=mainGlobals->fd.builtins=builtinsNs->fd.closure=[]->fd.params.posonlyargs=[]->fd.params.args.map (·.arg)=ps.map Dy->fd.params.vararg=none->fd.params.kwonlyargs=[]->fd.params.kwarg=none->fd.defaults=.none->h.CodeRec fd.code fd.qualname->tV h a ps sc body
inductive lT(h:EI)(cl:Cl):Prop
 | mk:∀nm q N bs sn sub col dd k0 k1 k2 k3 k5 mN,h.get? cl.addr=some (excClassObj nm q cl.addr N bs [.type "object"] true sn sub false col dd k0 k1 k2 k3 k5 "object.__new__")->h.Ns N mN->mN "__getattribute__" = none->mN "__getattr__" = none->mN "__setattr__" = none->mN "__init__" = some (.ref cl.init.addr)->(∀m f,cl.meth m=some f->mN (Dy m)=some (.ref f.addr))->(∀a∈cl.attrs,mN (Dy a)=none)->lT h cl
noncomputable def fi:List (String×DF):=
 [("whole_of",.ref 26),("is_op",.ref 164),("_law_leaves",.ref 494),("_law_dip",.ref 501),("_law_term",.ref 508),("_law_closed",.ref 513),("_law_worth",.ref 520),("_law_worths",.ref 525),("_law_due",.ref 530),
  ("Heap",.ref 483),("Bank",.ref 271),("Unions",.ref 353),("Keeper",.ref 114),("Consts",.ref 57),
  ("len",.builtin "len"),("sum",.builtin "sum"),("max",.builtin "max"),("sorted",.builtin "sorted"),("isinstance",.builtin "isinstance"),
  ("list",.type "list"),("dict",.type "dict"),("tuple",.type "tuple"),("str",.type "str"),("int",.type "int"),("set",.type "set"),("range",.type "range"),("enumerate",.type "enumerate")]
structure Gd(c:Cx):Prop where
 lim:c.h₀.NoLimit
 mods:∃o,c.h₀.get? sysModules=some o
 fns:∀f:Fn,tV c.h₀ f.addr f.params f.sco (dk f)
 cls:∀cl:Cl,lT c.h₀ cl
 keep:∀cl:Cl,∃k,(k=PySem.Keeper.frame\/k=PySem.Keeper.machine\/k=PySem.Keeper.boundFrame)/\Looks (model c.prog c.w) c.h₀ (keeperOf (.ref cl.addr)) k
 glob:∃mg mb,c.h₀.Ns mainGlobals mg/\c.h₀.Ns builtinsNs mb/\∀x v,fi.lookup x=some v->mg (Dy x)=some v\/(mg (Dy x)=none/\mb (Dy x)=some v)
noncomputable def bl(k:Nat)(A:Em):Prop:=A.handled=none/\A.depth+k+5 < recursionLimit/\A.units+8*k+60 < cLine
theorem bl.units{k:Nat}{A:Em}(R:bl k A):A.units+60 < cLine:=by have:=R.2.2;lia
theorem bl.less{k j:Nat}{A:Em}(R:bl k A)(h:j<=k):bl j A:=⟨R.1,by have:=R.2.1;lia,by have:=R.2.2;lia⟩
abbrev aY:DF->DA->Prop:=λ_ _=>False
inductive aq(c:Cx)(s:DA)(L:ao)(Q:PV->aa->Prop)(v:DF)(s':DA):Prop
 | mk:∀V σ' L',Wd c s' σ' L'->Ex bZ s s' L L'->ak L' s'.heap V v->Q V σ'->aq c s L Q v s'
inductive j8(c:Cx)(s:DA)(L:ao)(Q:List PV->aa->Prop)(vs:List DF)(s':DA):Prop
 | mk:∀V σ' L',Wd c s' σ' L'->Ex bZ s s' L L'->ag L' s'.heap V vs->Q V σ'->j8 c s L Q vs s'
inductive aH(c:Cx)(s:DA)(L:ao)(Q:Bool->aa->Prop)(b:Bool)(s':DA):Prop
 | mk:∀σ' L',Wd c s' σ' L'->Ex bZ s s' L L'->Q b σ'->aH c s L Q b s'
theorem aq.trans{c:Cx}{s s₁:DA}{L L1:ao}{Q:PV->aa->Prop}{v:DF}{s':DA}(X:Ex bZ s s₁ L L1)(p:aq c s₁ L1 Q v s'):aq c s L Q v s':=by
 exact p.casesOn λV σ' L' a b r q=>⟨V,σ',L',a,X.trans b,r,q⟩
theorem j8.trans{c:Cx}{s s₁:DA}{L L1:ao}{Q:List PV->aa->Prop}{v:List DF}{s':DA}(X:Ex bZ s s₁ L L1)(p:j8 c s₁ L1 Q v s'):j8 c s L Q v s':=by
 exact p.casesOn λV σ' L' a b r q=>⟨V,σ',L',a,X.trans b,r,q⟩
theorem aH.trans{c:Cx}{s s₁:DA}{L L1:ao}{Q:Bool->aa->Prop}{v:Bool}{s':DA}(X:Ex bZ s s₁ L L1)(p:aH c s₁ L1 Q v s'):aH c s L Q v s':=by
 exact p.casesOn λσ' L' a b r=>⟨σ',L',a,X.trans b,r⟩
noncomputable def aj(c:Cx):CP:=λk f args σ Q=>∀A s L vs,bl k A->Wd c s σ L->ag L s.heap args vs->
 wpAny (model c.prog c.w) A (call (.ref f.addr) vs) (aq c s L Q) aY s
theorem Wd.toks{c:Cx}{s:DA}{σ:aa}{L:ao}(W:Wd c s σ L)(t:Nat)(d:MH):Wd c {s with toks:=t,drawn:=d} σ L:=
 ⟨W.keep,W.size0,W.gens,W.os,W.old,W.fresh,W.live,W.objs,W.fin⟩
theorem Wd.exToks{c:Cx}{s:DA}{σ:aa}{L:ao}(W:Wd c s σ L)(t:Nat)(d:MH):Ex bZ s {s with toks:=t,drawn:=d} L L:=
 ⟨DQ _,λ_ _=>rfl,λ_ _ _ _ e=>e,λ_ h=>⟨rfl,W.adlt h⟩⟩
section
variable {c:Cx} {A:Em} {s:DA} {σ:aa} {L:ao} {env:Env} {sc:az} {ρ:af}
theorem aq.here{Q:PV->aa->Prop}{V:PV}{v:DF}(W:Wd c s σ L)(hv:ak L s.heap V v)(h:Q V σ):aq c s L Q v s:=⟨V,σ,L,W,Ex.refl W,hv,h⟩
theorem aq.toks{Q:PV->aa->Prop}{V:PV}{v:DF}(W:Wd c s σ L)(t:Nat)(hv:ak L s.heap V v)(h:Q V σ):aq c s L Q v {s with toks:=t}:=
 ⟨V,σ,L,W.toks t s.drawn,W.exToks t s.drawn,hv,h⟩
theorem aq.new{Q:PV->aa->Prop}{s':DA}{a:Nat}{o:PO}(W:Wd c s σ L)(hnew:aQ σ o Q)(ha:s.heap.objs.size<=a)(haz:a < s'.heap.objs.size)
 (hk:∀b ob,s.heap.get? b=some ob->s'.heap.get? b=some ob) (hV:∀p,VM s s' L (L.add p a)->eS c.w (L.add p a) s'.heap p o) (hg:s'.gens=s.gens) (ho:s'.os=s.os):aq c s L Q (.ref a) s':=by
 rcases hnew with h | ⟨p,hp,h⟩
 · obtain ⟨N,hN⟩:=W.fin;have hp:=hN N (DQ _);refine cj (W.alloc (.loc N) hp a o ha haz hk (hV _) hg ho) λW' X' V'=>?_;exact ⟨_,_,_,W',X',V',h N hp⟩
 · refine cj (W.alloc p hp a o ha haz hk (hV _) hg ho) λW' X' V'=>?_;exact ⟨_,_,_,W',X',V',h⟩
theorem aq.tup{Q:PV->aa->Prop}{l:List PV}{vs:List DF}(W:Wd c s σ L)(hl:ag L s.heap l vs)(h:Q (.tup l) σ) :
 aq c s L Q (.ref s.heap.objs.size) {s with heap:=s.heap.push {cls:=.type "tuple",data:=.seq vs.toArray}}:=by
 have hk:∀b o,s.heap.get? b=some o->(s.heap.push {cls:=.type "tuple",data:=.seq vs.toArray}).get? b=some o:=λb o e=>DJ _ e;obtain ⟨W',X'⟩:=W.grow (s':={s with heap:=s.heap.push {cls:=.type "tuple",data:=.seq vs.toArray}}) (by simp) hk rfl rfl;refine ⟨.tup l,σ,L,W',X',?_,h⟩;exact ⟨_,_,0,rfl,DZ _ rfl,W.fresh _ (DQ _),by simpa using hl.mono X'.vm0⟩
theorem qe{x:String}{v:DF}(h:fi.lookup x=some v):(Dy x == ("__debug__" : Str))=false:=by
 refine beq_eq_false_iff_ne.mpr λe=>?_;have:x = "__debug__":=Str.ofString_inj.mp e;subst this;rw [show fi.lookup "__debug__" = none from by decide] at h;cases h
theorem cu(G:Gd c)(W:Wd c s σ L)(F:ax c env sc s L ρ){x:String}{v:DF}{p:Pos}{Q:DF->DA->Prop}{E:DF->DA->Prop}(hx:sc.lookup x=some .globalImplicit)(hv:fi.lookup x=some v)(h:Q v s) :
 wpAny (model c.prog c.w) A (eval (.Name (Dy x) p) env) Q E s:=by
 refine eB G.glob λmg mb n1 n2 hm=>?_;have k1:s.heap.Ns env.globals mg:=by rw [F.glob];exact n1.keeps W.keep
 have k2:s.heap.Ns env.builtins mb:=by rw [F.bi];exact n2.keeps W.keep
 refine Name_function_global F.kind (by rw [F.kindOf,hx]) ?_ (qe hv);rcases hm x v hv with e | ⟨e1,e2⟩
 · exact loadGlobal_global k1 e h
 · exact loadGlobal_builtin k1 e1 k2 e2 h
theorem dz(F:ax c env sc s L ρ){x:String}{V:PV}{p:Pos}{Q:DF->DA->Prop}{E:DF->DA->Prop}(hd:x≠"__debug__")(hc:x≠"__classdict__")(hv:ρ x=some V)
 (h:∀v,ak L s.heap V v->Q v s):wpAny (model c.prog c.w) A (eval (.Name (Dy x) p) env) Q E s:=by
 have h1:(Dy x == ("__debug__" : Str))=false:=beq_eq_false_iff_ne.mpr λe=>hd (Str.ofString_inj.mp e);have h2:(Dy x == ("__classdict__" : Str))=false:=beq_eq_false_iff_ne.mpr λe=>hc (Str.ofString_inj.mp e);refine wpAny_Name ?_ h1;by_cases hl:sc.lookup x=some .local
 · refine aN F.loc λm hn hm=>?_;refine aN (hm x V hv hl) λpv e1 e2=>?_;exact wpAny_loadName_local F.kind (by rw [F.kindOf,hl]) hn e1 (h _ e2)
 · obtain ⟨hk,a,pv,e1,e2,e3⟩:=F.cel x V hv hl;rcases hk with hk | hk
   · exact wpAny_loadName_cell F.kind (by rw [F.kindOf,hk]) e1 e2 (h _ e3)
   · exact wpAny_loadName_free F.kind (by rw [F.kindOf,hk]) e1 e2 (h _ e3) h2
end
theorem bE{id:String}{p:Pos}{as:List Expr}{ks:List MZ}{pos:Pos}{attr:Str}{env:Env}{whole:Sem DF}(h:id≠"super") :
 attributeBase (.Call (.Name (Dy id) p) as ks pos) attr env whole=whole:=by
 have h1:(Dy id != ("super" : Str))=true:=bne_iff_ne.mpr λe=>h (Str.ofString_inj.mp e);cases as with
 | cons _ _=>rfl
 | nil=>cases ks with
  | cons _ _=>rfl
  | nil=>exact if_pos (by rw [h1];rfl)
theorem Bi.noSuper(f:Bi):f.name≠"super":=by cases f <;> decide
theorem Fn.noSuper(f:Fn):f.gname≠"super":=bne_iff_ne.mp (Fn.all (p:=λf=>f.gname != "super") (by decide +kernel) f)
theorem Cl.noSuper(f:Cl):f.gname≠"super":=by cases f <;> decide
mutual
theorem eD(e:E)(a:Str)(b:Env)(c:Sem DF):attributeBase e.py a b c=c:=by
 cases e with
 | test t=>exact kE t a b c
 | bi f=>exact bE f.noSuper
 | fn f=>exact bE f.noSuper
 | new f=>exact bE f.noSuper
 | isInt=>exact bE (by decide)
 | sortedSet=>exact bE (by decide)
 | sortedGet=>exact bE (by decide)
 | _=>rfl
theorem kE(t:T)(a:Str)(b:Env)(c:Sem DF):attributeBase t.py a b c=c:=by
 cases t with
 | val e=>exact eD e a b c
 | _=>rfl
end
mutual
theorem fC(e:E)(r:List Expr)(b:Env):starEach (e.py::r) b=(false,eval e.py b)::starEach r b:=by
 cases e with
 | test t=>exact qf t r b
 | _=>rfl
theorem qf(t:T)(r:List Expr)(b:Env):starEach (t.py::r) b=(false,eval t.py b)::starEach r b:=by
 cases t with
 | val e=>exact fC e r b
 | _=>rfl
end
noncomputable def fb:Es->Env->List (Bool×Sem DF)
 | .nil,_=>[]
 | .cons e es,env=>(false,eval e.py env)::fb es env
theorem jo:∀(es:Es) (env:Env),starEach es.py env=fb es env
 | .nil,_=>rfl
 | .cons e es,env=>by
  show starEach (e.py::es.py) env=_;rw [fC,jo es env];rfl
theorem dA:∀(es:Es) (env:Env),(fb es env).all (λx=>!x.1)=true/\(fb es env).any (·.1)=false
 | .nil,_=>⟨rfl,rfl⟩
 | .cons e es,env=>by
  exact dA es env
theorem jp(p:Pos):∀(es:Es) (env:Env),backTo p (fb es env)=fb es env
 | .nil,_=>rfl
 | .cons e es,env=>by
  exact congrArg ((false,eval e.py env)::·) (jp p es env)
theorem eT(p:Pos)(es:Es)(env:Env):backTo p (starEach es.py env)=fb es env:=by rw [jo,jp]
noncomputable def Es.len:Es->Nat
 | .nil=>0
 | .cons _ es=>es.len+1
theorem Es.py_length:∀es:Es,es.py.length=es.len
 | .nil=>rfl
 | .cons e es=>by show (e.py::es.py).length=_;rw [Gn,Es.py_length es];rfl
section
variable {M:HK} {A:Em} {Er:DF->DA->Prop} {s:DA} {env:Env}
theorem cw{f:DF}{es:Es}{Q:Args->DA->Prop}(h:wpAny M A (spliced (fb es env)) (λvs s'=>Q ⟨vs,[]⟩ s') Er s):wpAny M A (evalArgs f true (fb es env) []) Q Er s:=by
 cases es with
 | nil=>
  show wpAny M A (spliced [] >>= _) Q Er s;refine Dz (DU h (λvs s' h'=>?_) λ_ _ x=>x);refine Dz (DE ?_);refine D2 ?_;exact Dz (DE (Dz (DE (DE h'))))
 | cons e es=>exact LY h
theorem jq{e:E}{m:Str}{pa p:Pos}{es:Es}{Q:DF->DA->Prop}(hp:(pa.endLine == p.line)=true)(hl:es.len < 30)
 (h:wpAny M A (eval e.py env) (λov s₁=>∀pl,wpAny M A (getMethod ov m pl) (λfx s₂=>wpAny M A (callWith p fx.1 fx.2 (fb es env) []) Q Er s₂) Er s₁) Er s) :
 wpAny M A (eval (.Call (.Attribute e.py m pa) es.py [] p) env) Q Er s:=by
 rw [arm_eval_Call,eD,eT];have hform:methodCallForm (es.py.length+([]:List MZ).length) (fb es env) (backToKw p (keywordEach [] env))=true:=by
  unfold methodCallForm;rw [(dA es env).1,Es.py_length];have:decide (es.len+([]:List MZ).length+(if (backToKw p (keywordEach [] env)).isEmpty=true then 0 else 1) < 30)=true:=by
   rw [decide_eq_true_eq];show es.len+0+0 < 30;lia
  rw [this];rfl
 refine Dz (DU h (λov s₁ h₁=>Dz (Fj ?_)) λ_ _ x=>x);unfold methodCall;rw [hform];refine Dz (D2 (DU (h₁ _) (λfx s₂ h₂=>?_) λ_ _ x=>x));obtain ⟨f,first⟩:=fx;unfold methodCallPos;rw [show (!true || pa.endLine == p.line)=true from hp,if_pos rfl];exact Dz (DE h₂)
end
theorem gS(k v:PV)(r:List (PV×PV))(x:PV):ck ((k,v)::r) x=if aG k x=true then some 0 else (ck r x).map (·+1):=List.findIdx?_cons
@[elab_as_elim] theorem Dt{k v x:PV}{r:List (PV×PV)}{m:Option Nat->Prop}(a:aG k x=true->m (some 0))(b:¬aG k x=true->m ((ck r x).map (·+1))):m (ck ((k,v)::r) x):=by
 rw [gS];by_cases e:aG k x=true
 · rw [if_pos e];exact a e
 · rw [if_neg e];exact b e
theorem tW{k v x:PV}{r:List (PV×PV)}{j:Nat}{G:Prop}(h:ck ((k,v)::r) x=some j)(a:aG k x=true->j=0->G)(b:¬aG k x=true->∀i,ck r x=some i->j=i+1->G):G:=by
 rw [gS] at h;by_cases e:aG k x=true
 · rw [if_pos e] at h;exact a e (DN h).symm
 · rw [if_neg e] at h;exact (Ew.mp h).elim λi q=>b e i q.1 q.2.symm
theorem oa:∀(d:List (PV×PV)) (x:PV),(ck d x=none/\aB d x=none)\/∃j v,ck d x=some j/\d[j]? = some (x,v)/\aB d x=some v
 | [],x=>.inl ⟨rfl,rfl⟩
 | (k,v)::r,x=>by
  rw [gS];show _/\(if aG k x=true then some v else aB r x)=_\/∃j u,_/\_/\(if aG k x=true then some v else aB r x)=_;by_cases e:aG k x=true
  · rw [if_pos e,if_pos e];exact .inr ⟨0,v,rfl,congrArg (λk=>some (k,v)) (bg.mp e),rfl⟩
  · rw [if_neg e,if_neg e];exact (oa r x).imp (λh=>⟨congrArg _ h.1,h.2⟩) λh=>h.elim λj h=>h.elim λu h=>⟨j+1,u,congrArg _ h.1,h.2.1,h.2.2⟩
theorem dd{d:List (PV×PV)}{x:PV}{G:Prop}(a:ck d x=none->aB d x=none->G)(b:∀j v,ck d x=some j->d[j]? = some (x,v)->aB d x=some v->G):G:=
 (oa d x).elim (λh=>a h.1 h.2) λh=>h.elim λj h=>h.elim λv h=>b j v h.1 h.2.1 h.2.2
theorem eM:∀{d:List (PV×PV)} {x:PV} (y:PV),ck d x=none->bB d x y=d ++ [(x,y)]
 | [],x,y,_=>rfl
 | (k,v)::r,x,y,h=>by
  rw [gS] at h;show (if aG k x=true then (k,y)::r else (k,v)::bB r x y)=_;by_cases e:aG k x=true
  · rw [if_pos e] at h;exact nomatch h
  · rw [if_neg e] at h ⊢;exact congrArg _ (eM y (Option.map_eq_none_iff.mp h))
theorem jr:∀{d:List (PV×PV)} {x:PV} {j:Nat} (y:PV),ck d x=some j->(bB d x y).map (·.1)=d.map (·.1)
 | [],_,_,_,h=>nomatch h
 | (k,v)::r,x,j,y,h=>by
  show (if aG k x=true then (k,y)::r else (k,v)::bB r x y).map _=_;refine tW h (λe _=>?_) λe i q _=>?_
  · rw [if_pos e];rfl
  · rw [if_neg e];exact congrArg (k::·) (jr y q)
theorem oc:∀(d:List (PV×PV)) (x:PV),((gx d x).map (·.1)).Sublist (d.map (·.1))
 | [],x=>.slnil
 | (k,v)::r,x=>by
  show ((if aG k x=true then r else (k,v)::gx r x).map (·.1)).Sublist _;split
  · exact .cons _ (List.Sublist.refl _)
  · exact .cons_cons _ (oc r x)
theorem kL{d:List (PV×PV)}{x:PV}(h:ck d x=none):x∉d.map (·.1):=λhx=>
 (DO.mp hx).elim λkv e=>lN.mp (Ho.mp h kv e.1) e.2
section
variable {w:Fs} {L:ao} {h:EI}
theorem aA.setv{x y:PV}{v:DF}(hy:ak L h y v):∀{d:List (PV×PV)} {es:List EB} {j:Nat},ck d x=some j->aA w L h d es->aA w L h (bB d x y) (es.modify j λe=>{e with val:=v})
 | [],_,_,hj,_=>nomatch hj
 | (k,u)::r,_,j,hj,R=>R.consE λe er h1 h5=>by
  show aA w L h (if aG k x=true then (k,y)::r else (k,u)::bB r x y) _;refine tW hj (λq e=>?_) λq i hi e=>?_
  · rw [if_pos q,e];exact ⟨_,_,rfl,⟨h1.key,hy,h1.hash,h1.ok⟩,h5⟩
  · rw [if_neg q,e];exact ⟨_,_,rfl,h1,aA.setv hy hi h5⟩
theorem aA.push{x y:PV}{key v:DF}(hx:ak L h x key)(hy:ak L h y v)(hk:cY x):∀{d:List (PV×PV)} {es:List EB},aA w L h d es->aA w L h (d ++ [(x,y)]) (es ++ [⟨aW w x,key,v⟩])
 | [],es,R=>by rw [show es=[] from R];exact ⟨_,_,rfl,⟨hx,hy,rfl,hk⟩,rfl⟩
 | _::_,_,R=>R.consE λ_ _ h1 h5=>⟨_,_,rfl,h1,aA.push hx hy hk h5⟩
theorem aA.erase{x:PV}:∀{d:List (PV×PV)} {es:List EB} {j:Nat},ck d x=some j->aA w L h d es->aA w L h (gx d x) (es.eraseIdx j)
 | [],_,_,hj,_=>nomatch hj
 | (k,u)::r,_,j,hj,R=>R.consE λe er h1 h5=>by
  show aA w L h (if aG k x=true then r else (k,u)::gx r x) _;refine tW hj (λq e=>?_) λq i hi e=>?_
  · rw [if_pos q,e];exact h5
  · rw [if_neg q,e];exact ⟨_,_,rfl,h1,aA.erase hi h5⟩
end
section
variable {c:Cx} {A:Em} {Er:DF->DA->Prop} {s:DA} {σ:aa} {L:ao}
theorem Wd.upd(W:Wd c s σ L){p:al}{o₀:PO}(hp:σ p=some o₀)(o:PO){h':EI}(t:Nat)(hs:Fp (L.ad p) s.heap h')(hV:VM s {s with heap:=h',toks:=t} L L->eS c.w L h' p o)(hnf:∀l,o₀≠.froz l:=by intro l h;cases h) :
 Wd c {s with heap:=h',toks:=t} (σ.set p o) L/\Ex bZ s {s with heap:=h',toks:=t} L L:=
 W.change (L':=L) p o (λl e=>hnf l (by rw [hp] at e;injection e)) (Ee hs.1.symm) (λb ob hb e=>(hs.2 b λq=>hb (q▸W.own hp)).trans e) (λ_ _=>rfl) (λb hb=>.inl (W.fresh b hb))
  (λb hb=>W.fresh b (by rw [← hs.1];exact hb)) (λ_ _=>rfl) (λ_=>rfl) (W.own hp) hV rfl rfl
theorem DK.hash{d:List (PV×PV)}{x:PV}{key:DF}{Q:Int->DA->Prop}(hu:A.units+20 < cLine)(hk:DK d x)(hx:ak L s.heap x key)(h:∀t,Q (aW c.w x) {s with toks:=t}) :
 wpAny (model c.prog c.w) A (pyHash key) Q Er s:=nU (w:=c.w) 8 hk.2.1 hk.1 (by lia) hx h
theorem DK.find{d:List (PV×PV)}{x:PV}{p:al}{key:DF}{Q:Option Nat->DA->Prop}(t:Nat)(W:Wd c s σ L)(hu:A.units+20 < cLine)(hp:σ p=some (.dict d))(hk:DK d x)(hx:ak L s.heap x key)
 (h:∀es n,s.heap.get? (L.ad p)=some ⟨.type "dict",none,.dict es n,#[]⟩->aA c.w L s.heap d es.toList->(d.map (·.1)).Nodup->Q (ck d x) {s with toks:=t}) :
 wpAny (model c.prog c.w) A (dictFind (L.ad p) key (aW c.w x)) Q Er {s with toks:=t}:=by
 refine eB (W.objs p _ hp) λes n h1 h2 h3=>?_;exact kJ (s:={s with toks:=t}) (by lia) h1 rfl h2 h3 hk.1 hk.2.1 hk.2.2 hx (h es n h1 h2 h3)
theorem dK{d:List (PV×PV)}{x:PV}{p:al}{key:DF}{Q:Option DF->DA->Prop}(W:Wd c s σ L)(hu:A.units+20 < cLine)(hp:σ p=some (.dict d))(hk:DK d x)(hx:ak L s.heap x key)
 (h:∀t,(aB d x=none->Q none {s with toks:=t})/\(∀y v,aB d x=some y->ak L s.heap y v->Q (some v) {s with toks:=t})) :
 wpAny (model c.prog c.w) A (dictGet (L.ad p) key) Q Er s:=by
 refine D2 ?_;refine Dz (hk.hash hu hx λt=>Dz (hk.find t W hu hp hx λes n ho R hn=>?_));refine dd (d:=d) (x:=x) (λh1 h2=>?_) λj v h1 h2 h3=>?_
 · rw [h1];exact DE ((h t).1 h2)
 · rw [h1];refine Dz (G2 (s:={s with toks:=t}) ho rfl ?_);refine aN (R.get' h2) λe g1 g=>?_;rw [g1];exact DE ((h t).2 v e.val h3 g.val)
theorem dX{d:List (PV×PV)}{w:Fs}{h:EI}{es:Array EB}(R:aA w L h d es.toList):es.size=d.length:=by rw [← R.length,DT]
theorem aV{n:Nat}(h:n < ay):n<=sizeLine:=by rw [EP];exact D9 (DI h (by decide))
theorem Wd.pushed{d:List (PV×PV)}{x y:PV}{p:al}{key v:DF}{es:Array EB}{n:Nat}(W:Wd c s σ L)(hp:σ p=some (.dict d))(hk:DK d x)(t:Nat)
 (hx:ak L s.heap x key) (hy:ak L s.heap y v) (h1:ck d x=none) (ho:s.heap.get? (L.ad p)=some ⟨.type "dict",none,.dict es n,#[]⟩) (R:aA c.w L s.heap d es.toList) (hn:(d.map (·.1)).Nodup) :
 Wd c {s with heap:=s.heap.update (L.ad p) (JT λes=>es.push ⟨aW c.w x,key,v⟩),toks:=t} (σ.set p (.dict (bB d x y))) L/\
  Ex bZ s {s with heap:=s.heap.update (L.ad p) (JT λes=>es.push ⟨aW c.w x,key,v⟩),toks:=t} L L:=
 W.upd hp (.dict (bB d x y)) t (Ej ..) λV=>
  ⟨_,_,ED _ ho rfl,by rw [eM y h1,Fo];exact (aA.mono V R).push (hx.mono V) (hy.mono V) hk.1,by
   rw [eM y h1,D4,EV];exact ⟨hn,by simp,λa ha b hb e=>kL h1 ((e.trans (DS.mp hb):a=x)▸ha)⟩⟩
theorem tX{d:List (PV×PV)}{x y:PV}{p:al}{key v:DF}{Q:Unit->DA->Prop}(W:Wd c s σ L)(hu:A.units+20 < cLine)(hp:σ p=some (.dict d))(hk:DK d x)(hl:d.length < ay)
 (hx:ak L s.heap x key) (hy:ak L s.heap y v)
 (h:∀s',Wd c s' (σ.set p (.dict (bB d x y))) L->Ex bZ s s' L L->Q () s') :
 wpAny (model c.prog c.w) A (dictSet (L.ad p) key v) Q Er s:=by
 refine D2 ?_;refine Dz (hk.hash hu hx λt=>?_);refine D2 ?_;refine Dz (hk.find t W hu hp hx λes n ho R hn=>?_);refine dd (d:=d) (x:=x) (λh1 h2=>?_) λj u h1 h2 h3=>?_
 · rw [h1];refine Dz (Ft (Hc (hz:=by rw [dX R];exact aV hl) (s:={s with toks:=t}) ho rfl ?_));exact h _ (W.pushed hp hk t hx hy h1 ho R hn).1 (W.pushed hp hk t hx hy h1 ho R hn).2
 · rw [h1];refine Dz (Ft (Dz (Lp (s:={s with toks:=t}) ho rfl (MI ?_))));obtain ⟨W',X'⟩:=W.upd hp (.dict (bB d x y)) (h':=s.heap.update (L.ad p) (Obj.mapDict λes=>es.modify j λe=>{e with val:=v})) t (Ej ..) λV=>
    ⟨_,_,ED _ ho rfl,by rw [Kp];exact (aA.mono V R).setv (hy.mono V) h1,by rw [jr y h1];exact hn⟩
   exact h _ W' X'
theorem kF{d:List (PV×PV)}{x y:PV}{p:al}{key v:DF}{Q:DF->DA->Prop}(W:Wd c s σ L)(hu:A.units+20 < cLine)(hp:σ p=some (.dict d))(hk:DK d x)(hl:d.length < ay)
 (hx:ak L s.heap x key) (hy:ak L s.heap y v)
 (h:∀s',Wd c s' (σ.set p (.dict (d ++ [(x,y)]))) L->Ex bZ s s' L L->aB d x=none->Q v s')
 (h2:∀t z u,aB d x=some z->ak L s.heap z u->Q u {s with toks:=t}) :
 wpAny (model c.prog c.w) A (dictSetDefault (L.ad p) key v) Q Er s:=by
 refine D2 ?_;refine Dz (hk.hash hu hx λt=>Dz (hk.find t W hu hp hx λes n ho R hn=>?_));refine dd (d:=d) (x:=x) (λh1 hg=>?_) λj u h1 hj h3=>?_
 · rw [h1];refine Dz (Ft (Dz (Hc (hz:=by rw [dX R];exact aV hl) (s:={s with toks:=t}) ho rfl ?_)));obtain ⟨W',X'⟩:=W.pushed hp hk t hx hy h1 ho R hn;rw [eM y h1] at W';exact DE (h _ W' X' hg)
 · rw [h1];refine Dz (G2 (s:={s with toks:=t}) ho rfl ?_);refine aN (R.get' hj) λe g1 g=>?_;rw [g1];exact Dz (Ft (DE (h2 t u e.val h3 g.val)))
theorem tY{d:List (PV×PV)}{x y:PV}{p:al}{key:DF}{Q:Option EB->DA->Prop}(W:Wd c s σ L)(hu:A.units+20 < cLine)(hp:σ p=some (.dict d))(hk:DK d x)(hl:d.length < ay)
 (hx:ak L s.heap x key) (hy:aB d x=some y)
 (h:∀s' e,Wd c s' (σ.set p (.dict (gx d x))) L->Ex bZ s s' L L->ak L s'.heap y e.val->Q (some e) s') :
 wpAny (model c.prog c.w) A (Builtin.Dict.takeOut (L.ad p) key) Q Er s:=by
 refine D2 ?_;refine Dz (hk.hash hu hx λt=>Dz (hk.find t W hu hp hx λes n ho R hn=>?_));refine dd (d:=d) (x:=x) (λh1 hg=>?_) λj u h1 hj h3=>?_
 · exact nomatch hy.symm.trans hg
 · rw [h1];have hyu:=DN (hy.symm.trans h3);refine Dz (G2 (s:={s with toks:=t}) ho rfl ?_);refine aN (R.get' hj) λe g1 g=>?_;rw [g1];refine Dz (Hc (hz:=by rw [dX R];exact aV hl) (hf:=FG (by unfold Array.eraseIdxIfInBounds;split <;> simp)) (s:={s with toks:=t}) ho rfl ?_);obtain ⟨W',X'⟩:=W.upd hp (.dict (gx d x)) (h':=s.heap.update (L.ad p) (JT λes=>es.eraseIdxIfInBounds j)) t (Ej ..) λV=>
    ⟨_,_,ED _ ho rfl,by
     have:(es.eraseIdxIfInBounds j).toList=es.toList.eraseIdx j:=by simp
     rw [this];exact (aA.mono V R).erase h1,hn.sublist (oc d x)⟩
   exact DE (h _ e W' X' (hyu▸g.val.mono X'.vm0))
end
mutual
noncomputable def gf:PV->PyData
 | .none=>.none
 | .int i=>.int i
 | .str s=>.str s
 | .tup l=>.tuple (cx l)
 | _=>.none
noncomputable def cx:List PV->List PyData
 | []=>[]
 | x::r=>gf x::cx r
end
mutual
theorem gz{L:ao}{h:EI}:∀(x:PV) {v:DF},plain x=true->ak L h x v->∃as,Reads h v (gf x) as
 | .none,v,_,e=>cX (v:=v) e ⟨_,Reads.none⟩
 | .bool _,_,p,_=>nomatch p
 | .int _,_,_,e=>e.intE λ_=>⟨_,Reads.int _ _⟩
 | .str _,_,_,e=>e.strE λ_=>⟨_,Reads.str _ _⟩
 | .tup l,_,p,e=>e.tupE λ_ _ _ h1 _ h2=>(eN l p h2).elim λ_ r=>⟨_,Lx h1 rfl rfl r⟩
 | .ref _,_,p,_=>nomatch p
theorem eN{L:ao}{h:EI}:∀(l:List PV) {vs:List DF},plains l=true->ag L h l vs->∃as,ReadsAll h vs (cx l) as
 | [],_,_,e=>e.nilE ⟨_,ReadsAll.nil⟩
 | x::r,_,p,e=>e.consE λ_ _ h1 h2=>(gz x (DP.mp p).1 h1).elim λ_ a=>(eN r (DP.mp p).2 h2).elim λ_ b=>⟨_,ReadsAll.cons a b⟩
end
mutual
theorem cD:∀(x:PV),plain x=true->(gf x).canLay0=true
 | .none,_=>rfl
 | .bool _,p=>nomatch p
 | .int i,_=>rfl
 | .str i,p=>p
 | .tup l,p=>bX l p
 | .ref _,p=>nomatch p
theorem bX:∀(l:List PV),plains l=true->PyData.canLayAll0 (cx l)=true
 | [],_=>rfl
 | x::r,p=>DP.mpr ⟨cD x (DP.mp p).1,bX r (DP.mp p).2⟩
end
mutual
theorem qg:∀(x:PV),(gf x).depth=aK x
 | .tup l=>congrArg (·+1) (gT l)
 | .none=>rfl
 | .bool _=>rfl
 | .int i=>rfl
 | .str i=>rfl
 | .ref _=>rfl
theorem gT:∀(l:List PV),JU (cx l)=aP l
 | []=>rfl
 | x::r=>by rw [show cx (x::r)=gf x::cx r from rfl,JU,qg x,gT r];rfl
end
mutual
theorem vK:∀(x y:PV),plain x=true->plain y=true->(Ky (gf x) (gf y)=true↔x=y)
 | .tup l,y,p,q=>by
  cases y with
  | tup l'=>exact (ng l l' p q).trans ⟨congrArg _,PV.tup.inj⟩
  | bool b=>exact nomatch q
  | ref b=>exact nomatch q
  | _=>exact ⟨nofun,nofun⟩
 | .none,y,p,q=>by
  cases y with
  | none=>exact ⟨λ_=>rfl,λ_=>rfl⟩
  | bool b=>exact nomatch q
  | ref b=>exact nomatch q
  | _=>exact ⟨nofun,nofun⟩
 | .int i,y,p,q=>by
  cases y with
  | int j=>show (i == j)=true↔_;rw [beq_iff_eq,PV.int.injEq]
  | bool b=>exact nomatch q
  | ref b=>exact nomatch q
  | _=>exact ⟨nofun,nofun⟩
 | .str i,y,p,q=>by
  cases y with
  | str j=>show (i == j)=true↔_;rw [beq_iff_eq,PV.str.injEq]
  | bool b=>exact nomatch q
  | ref b=>exact nomatch q
  | _=>exact ⟨nofun,nofun⟩
 | .bool _,_,p,_=>nomatch p
 | .ref _,_,p,_=>nomatch p
theorem ng:∀(x y:List PV),plains x=true->plains y=true->(Kv (cx x) (cx y)=true↔x=y)
 | [],[],_,_=>⟨λ_=>rfl,λ_=>rfl⟩
 | [],_::_,_,_=>⟨nofun,nofun⟩
 | _::_,[],_,_=>⟨nofun,nofun⟩
 | x::r,y::r',p,q=>by
  rw [show cx (x::r)=gf x::cx r from rfl,show cx (y::r')=gf y::cx r' from rfl,Kv,FA,vK x y (DP.mp p).1 (DP.mp q).1,ng r r' (DP.mp p).2 (DP.mp q).2,LD]
end
theorem AS{x y:PV}(p:plain x=true)(q:plain y=true):Ky (gf x) (gf y)=aG x y:=by
 rw [Hv,vK x y p q,bg]
theorem Cw{x y:List PV}(p:plains x=true)(q:plains y=true):Kv (cx x) (cx y)=aG (.tup x) (.tup y):=by
 rw [Hv,ng x y p q,bg,PV.tup.injEq]
theorem qh{v:PV}(hv:plain v=true):∀{l:List PV},plains l=true->((cx l).any λy=>Ky y (gf v))=fB v l
 | [],_=>rfl
 | x::r,p=>by rw [show cx (x::r)=gf x::cx r from rfl,show fB v (x::r)=(aG x v || fB v r) from rfl,List.any_cons,AS (DP.mp p).1 hv,qh hv (DP.mp p).2]
section
variable {c:Cx} {A:Em} {Er:DF->DA->Prop} {s:DA} {σ:aa} {L:ao}
theorem Wd.notModules(G:Gd c)(W:Wd c s σ L){p:al}{o:PO}(hp:σ p=some o)(hnf:∀l,o≠.froz l:=by intro l h;cases h):(L.ad p == sysModules)=false:=
 beq_eq_false_iff_ne.mpr λe=>G.mods.elim λo' h2=>(W.old _ o' h2).elim (λh=>nomatch ((e▸W.own hp).symm.trans h:some p=none)) λh=>h.elim λq h=>h.elim λl h=>
  hnf l (DN (hp.symm.trans (DN ((e▸W.own hp:L.own sysModules=some p).symm.trans h.1)▸h.2)))
def AU(c:Cx)(A:Em)(Er:DF->DA->Prop)(s:DA)(x y:Ku)(v u:DF)(K:Bool->DA->Prop):Prop:=
 ∀Q:DF->DA->Prop,((∀b s',K b s'->Q (.bool b) s')->wpAny (model c.prog c.w) A (compareOp x v u) Q Er s)/\((∀b s',K b s'->Q (.bool !b) s')->wpAny (model c.prog c.w) A (compareOp y v u) Q Er s)
theorem y9{v u:DF}{V U:PV}{K:Bool->Prop}(W:Wd c s σ L)(hu:A.units+60 < cLine)(hv:ak L s.heap V v)(hw:ak L s.heap U u)(h:mV σ K V U):AU c A Er s .Eq .NotEq v u λb s'=>s'=s/\K b:=by
 intro Q;revert hv hw;cases h with
 | pl a b d k=>
  intro hv hw;refine (gz V a hv).elim λas ra=>(gz U b hw).elim λbs rb=>?_;have room:A.units+min (gf V).depth (gf U).depth < cLine:=DC (EF (DM (JV _ _) (qg V▸d)) _) (by lia);have e:=AS a b;exact ⟨λhQ=>SeqAt.compareEq_reads ra rb (cD V a) (cD U b) room (e▸hQ _ _ ⟨rfl,k⟩),λhQ=>SeqAt.compareNe_reads ra rb (cD V a) (cD U b) room (e▸hQ _ _ ⟨rfl,k⟩)⟩
 | @li p q l l' hp hq a b d k=>
  refine bf (W.objs p _ hp) λxs n g1 g2=>bf (W.objs q _ hq) λys m f1 f2=>?_;refine λhv hw=>hv.refE λ_=>hw.refE λ_=>?_;refine (eN l a g2).elim λas ra=>(eN l' b f2).elim λbs rb=>?_;have room:A.units+min (MJ (cx l)).depth (MJ (cx l')).depth < cLine:=DC (EF (DM (JV _ _) (show _<=9 from Ei (gT l▸d))) _) (by lia);have e:Ky (.list (cx l)) (.list (cx l'))=aG (.tup l) (.tup l'):=Cw a b;exact ⟨λhQ=>SeqAt.compareEq_reads (I2 g1 rfl rfl ra) (I2 f1 rfl rfl rb) (bX l a) (bX l' b) room (e▸hQ _ _ ⟨rfl,k⟩),λhQ=>SeqAt.compareNe_reads (I2 g1 rfl rfl ra) (I2 f1 rfl rfl rb) (bX l a) (bX l' b) room (e▸hQ _ _ ⟨rfl,k⟩)⟩
theorem za(G:Gd c){v u:DF}{V U:PV}{K:Bool->Prop}(W:Wd c s σ L)(hu:A.units+60 < cLine)(hv:ak L s.heap V v)(hw:ak L s.heap U u)(h:lk σ K V U):AU c A Er s .In .NotIn v u λb s'=>(∃t,s'={s with toks:=t})/\K b:=by
 intro Q;revert hw;have room:∀{l:List PV},aP l<=8->A.units+1+min (JU (cx l)) (gf V).depth < cLine:=λ{l} d=>
  DC (EF (DM (JV _ _) (gT l▸d)) _) (by lia)
 cases h with
 | @di p d hp hk k=>
  refine λhw=>hw.refE λ_=>?_;have hd:=W.notModules G hp;have hT:s.TypeIs (.ref (L.ad p)) "dict":=bf (W.objs p _ hp) λ_ _ g1 _=>⟨_,g1,rfl⟩;have main:∀{R:DF->DA->Prop},(∀t,R (.bool (aB d V).isSome) {s with toks:=t})->wpAny (model c.prog c.w) A.in1 (FO.«dict.__contains__» ⟨[.ref (L.ad p),v],[]⟩) (λfin s'=>∃v,fin=.done (.ret v)/\R v s') Er s:=λ{R} hR=>by
   show wpAny _ _ (dictGet (L.ad p) v >>= _) _ _ s;refine Dz (dK (c:=c) (σ:=σ) (L:=L) W (by show A.units+1+20 < cLine;lia) hp hk hv λt=>⟨λhn=>?_,λy z hy _=>?_⟩)
   · show wpAny _ _ (Builtin.Dict.pendingKey? (L.ad p) v >>= _) _ _ _;exact Dz (wpAny_pendingKey_other hd (DE ⟨_,rfl,(congrArg (λo:Option PV=>R (.bool o.isSome) {s with toks:=t}) hn).mp (hR t)⟩))
   · exact DE ⟨_,rfl,(congrArg (λo:Option PV=>R (.bool o.isSome) {s with toks:=t}) hy).mp (hR t)⟩
  have both:∀{R:Bool->DA->Prop},(∀t,R (aB d V).isSome {s with toks:=t})->wpAny (model c.prog c.w) A (contains (.ref (L.ad p)) v) R Er s:=λ{R} hR=>by
   refine D2 ?_;refine Dz (GT hT I3.lookup ?_);show wpAny _ _ (if (some (Ml "dict.__contains__") == some Gz)=true then _ else _) _ Er s;rw [if_neg (by rw [Lo];exact DY)];exact Dz (wpAny_callSpecialUnlessNone?_slot (name:=Dy "__contains__") hT I3
    (EH I3 hT entry_dict_contains (main λt=>FE (hR t)) (args_dict_contains _ _)))
  exact ⟨λhQ=>Dz (both λt=>DE (hQ _ _ ⟨⟨t,rfl⟩,k⟩)),λhQ=>Dz (both λt=>DE (hQ _ _ ⟨⟨t,rfl⟩,k⟩))⟩
 | @li p l hp a b d k=>
  refine bf (W.objs p _ hp) λxs n g1 g2=>λhw=>hw.refE λ_=>(gz V a hv).elim λas ra=>(eN l b g2).elim λbs rb=>?_;exact ⟨λhQ=>SeqAt.in_list_reads (I2 g1 rfl rfl rb) ra (bX l b) (cD V a) (room d) (qh a b▸hQ _ _ ⟨⟨s.toks,rfl⟩,k⟩),
   λhQ=>SeqAt.notIn_list_reads (I2 g1 rfl rfl rb) ra (bX l b) (cD V a) (room d) (qh a b▸hQ _ _ ⟨⟨s.toks,rfl⟩,k⟩)⟩
 | @tup l a b d k=>
  refine λhw=>hw.tupE λa' xs n g1 _ g2=>(gz V a hv).elim λas ra=>(eN l b g2).elim λbs rb=>?_;exact ⟨λhQ=>SeqAt.in_tuple_reads (Lx g1 rfl rfl rb) ra (bX l b) (cD V a) (room d) (qh a b▸hQ _ _ ⟨⟨s.toks,rfl⟩,k⟩),
   λhQ=>SeqAt.notIn_tuple_reads (Lx g1 rfl rfl rb) ra (bX l b) (cD V a) (room d) (qh a b▸hQ _ _ ⟨⟨s.toks,rfl⟩,k⟩)⟩
 | str e k=>
  rw [e] at hv;exact λhw=>hw.strE λ_=>hv.strE λ_=>⟨λhQ=>SB.contains (hQ _ _ ⟨⟨s.toks,rfl⟩,k⟩),λhQ=>SB.notContains (hQ _ _ ⟨⟨s.toks,rfl⟩,k⟩)⟩
theorem zb{v:DF}{V:PV}{h:EI}(hv:ak L h V v):(v == Gz)=aG V .none:=by
 cases V with
 | none=>exact cX (m:=λv=>(v == Gz)=_) hv (aJ _).symm
 | bool b=>exact cX (m:=λv=>(v == Gz)=_) hv (JK (aC nofun))
 | int b=>exact hv.intE λ_=>(JK (aC nofun))
 | str b=>exact hv.strE λ_=>(JK (aC nofun))
 | tup b=>exact hv.tupE λ_ _ _ _ _ _=>(JK (aC nofun))
 | ref b=>exact hv.refE λ_=>(JK (aC nofun))
theorem js(G:Gd c){op:Ku}{v u:DF}{V U:PV}{K:Bool->Prop}{Q:DF->DA->Prop}(W:Wd c s σ L)(hu:A.units+60 < cLine)(hv:ak L s.heap V v)(hw:ak L s.heap U u)(h:bc σ K op V U)
 (hQ:∀b t,K b->Q (.bool b) {s with toks:=t}):wpAny (model c.prog c.w) A (compareOp op v u) Q Er s:=by
 have hQs:∀b,K b->Q (.bool b) s:=λb k=>hQ b s.toks k;revert hv hw;cases h with
 | eq h=>exact λhv hw=>(y9 W hu hv hw h Q).1 λb s' k=>k.1▸hQs _ k.2
 | ne h=>exact λhv hw=>(y9 W hu hv hw h Q).2 λb s' k=>k.1▸hQs _ k.2
 | in_ h=>exact λhv hw=>(za G W hu hv hw h Q).1 λb s' k=>k.1.elim λt e=>e▸hQ _ t k.2
 | ni h=>exact λhv hw=>(za G W hu hv hw h Q).2 λb s' k=>k.1.elim λt e=>e▸hQ _ t k.2
 | lt h=>exact λhv hw=>hv.intE λ_=>hw.intE λ_=>lt_int (hQs _ h)
 | le h=>exact λhv hw=>hv.intE λ_=>hw.intE λ_=>le_int (hQs _ h)
 | gt h=>exact λhv hw=>hv.intE λ_=>hw.intE λ_=>gt_int (hQs _ h)
 | is h=>exact λhv hw=>cX (v:=u) hw (is_none (zb hv▸hQs _ h))
 | isn h=>exact λhv hw=>cX (v:=u) hw (isNot_none (zb hv▸hQs _ h))
end
section
open Builtin Builtin.ObjectAttr
theorem gU(fs:List (String×PV))(a x:String)(u:PV):cU (dy fs a u) x=if x=a then some u else cU fs x:=by
 induction fs with
 | nil=>
  show (if a=x then some u else none)=_;by_cases e:x=a
  · rw [if_pos e,if_pos e.symm]
  · rw [if_neg e,if_neg λq=>e q.symm];rfl
 | cons y r ih=>
  obtain ⟨y,v⟩:=y;show cU (if y=a then (y,u)::r else (y,v)::dy r a u) x=_;by_cases e:y=a
  · rw [if_pos e];show (if y=x then some u else cU r x)=_;by_cases q:x=a
    · rw [if_pos q,if_pos (e.trans q.symm)]
    · rw [if_neg q,if_neg λz=>q (z.symm.trans e)];show cU r x=if y=x then some v else cU r x
      rw [if_neg λz=>q (z.symm.trans e)]
  · rw [if_neg e];show (if y=x then some v else cU (dy r a u) x)=_;rw [ih];show _=if x=a then some u else if y=x then some v else cU r x
    by_cases q:x=a
    · rw [if_pos q,if_pos q,if_neg λz=>e (z.trans q)]
    · rw [if_neg q,if_neg q]
theorem jt:∀(fs:List (String×PV)) (a:String) (u:PV),(∀y∈fs.map (·.1),y∈(dy fs a u).map (·.1))/\a∈(dy fs a u).map (·.1)
 | [],a,u=>⟨(λ_ h=>nomatch h),List.Mem.head _⟩
 | (y,v)::r,a,u=>by
  rw [show dy ((y,v)::r) a u=if y=a then (y,u)::r else (y,v)::dy r a u from rfl];by_cases e:y=a
  · rw [if_pos e];exact ⟨λ_ h=>h,e▸List.Mem.head _⟩
  · rw [if_neg e];exact ⟨λz hz=>D5.mpr ((D5.mp hz).imp id ((jt r a u).1 z)),List.Mem.tail _ (jt r a u).2⟩
theorem AV:∀cl:Cl,(cl.attrs.all λa=>(fastLookup "object" (Dy a)).elim false Option.isNone)=true:=by
 intro cl;cases cl <;> kernel_rfl
theorem oe(cl:Cl)(a:String)(h:a∈cl.attrs):typeLookup (.type "object") (Dy a)=pure none:=by
 have:=Et.mp (AV cl) a h;rw [Fz,EN];cases q:fastLookup "object" (Dy a) with
 | none=>rw [q] at this;exact (DY this).elim
 | some o=>rw [q] at this;rw [ER.mp this]
theorem ak.handed{L:ao}{h:EI}{V:PV}{v:DF}(e:ak L h V v):handedOut v=pure v:=by
 cases V with
 | none=>exact cX (v:=v) e rfl
 | bool b=>exact cX (v:=v) e rfl
 | int b=>exact e.intE λ_=>rfl
 | str b=>exact e.strE λ_=>rfl
 | tup b=>exact e.tupE λ_ _ _ _ _ _=>rfl
 | ref b=>exact e.refE λ_=>rfl
section
variable {c:Cx} {A:Em} {Er:DF->DA->Prop} {s:DA} {σ:aa} {L:ao}
theorem rY{V x:PV}{a:String}{G:Prop}(h:bS σ V a=some x)(k:∀p cl fs,V=.ref p->σ p=some (.inst cl fs)->cU fs a=some x->G):G:=by
 cases V with
 | ref p=>
  refine (FM.mp (h:(σ p).bind (pR a)=some x)).elim λo q=>?_;cases o with
  | inst cl fs=>exact k p cl fs rfl q.1 q.2
  | _=>exact (Eh _ q.2.symm).elim
 | _=>exact (Eh _ h.symm).elim
theorem zL(G:Gd c)(W:Wd c s σ L){v:DF}{V x:PV}{a:String}{Q:DF->DA->Prop}(hv:ak L s.heap V v)(h:bS σ V a=some x)
 (hQ:∀r t,ak L s.heap x r->Q r {s with toks:=t}):wpAny (model c.prog c.w) A (getAttr v (Dy a) true) Q Er s:=by
 refine rY h λp cl fs e hp hx=>?_;rw [e] at hv;refine ak.refE (m:=λv=>wpAny _ _ (getAttr v _ true) Q Er s) hv λ_=>?_;obtain ⟨dx,ob,m,h1,h2,h3,h4,h5,h6,h7,h8,h9,h10,h11⟩:=W.objs p _ hp;obtain ⟨nm,q,N,bs,sn,sub,col,dd,k0,k1,k2,k3,k5,mN,hC,hn,c1,c2,c3,c4,c5,c6⟩:=G.cls cl;have ha:=h9 a x hx;exact (h8 a x hx).elim λpv g=>load_attr (h:=s.heap) (W.keep _ _ hC) (hn.keeps W.keep) c1 (c6 a ha) (oe cl a ha) ⟨ob,h1,h2,h3,.inr ⟨dx,h4,h6,h7⟩⟩ g.1 g.2.handed (hQ pv _ g.2)
section
variable {g:Array KN} {d:MH} {h:EI} {t:Nat} {os:LV} {prog:Fc} {w:Fs}
variable {x dx C N:Ep} {nm q:Ek} {bs:List DF} {sn:List Ek} {sub:List DF} {col:Option Bool} {dd:Option Ep} {k0 k1 k2 k3 k5:Option DF} {mN mA:Ek->Option DF} {name:Ek} {v:DF} {o:Obj} {ns:List Ek}
theorem nh{B sa owner:String}{bm:List DF}{tk:Tok}{R:Fin->DA->Prop}
 (SF:LZ B bm sa owner) (hC:h.get? C=some (excClassObj nm q C N bs bm true sn sub false col dd k0 k1 k2 k3 k5 "object.__new__")) (hn:h.Ns N mN) (hna:mN name=none)
 (hB:typeLookup (.type B) name=pure none) (hx:h.get? x=some o) (hc:o.cls=.ref C) (hnc:∀c,o.data≠.cls c) (hdx:o.dict=some dx) (hne:dx≠x) (hm:h.Ns1 dx mA)
 (hw:Within mA ns) (hsz:ns.length < 100) (hq:∀h' t',h'.Ns1 dx (λy=>if y=name then some v else mA y)->Fp dx h h'->R (.done (.ret .none)) ⟨h',g,d,t',os⟩) :
 wpAny (model prog w) A (FO.«object.__setattr__» ⟨[.ref x,.str name tk,v],[]⟩) R Er ⟨h,g,d,t,os⟩:=by
 have hpass:=SF.passes (.ref x);repeat (first | rw [refuse_eq] | (rw [refuseLoop_ref,hpass]) | (with_reducible refine G3 hx ?_;rw [hc]) | with_reducible refine wpAny_mroOf_exc hC ?_ | (with_reducible refine IE hC hn SF.mro hB ?_;rw [hna]) | wp_step)
 rw [hdx];refine DE ?_;show wpAny _ _ (storeInDict dx (.str name tk) name v) _ _ _;unfold storeInDict newKeyGuard;refine Dz (DE (Dz (wpAny_nsSet1 hm λh' hn' hs=>?_)));refine tP (hn'.count (Within.cons name v hw)) λoD esD epD hoD hdD hcD=>?_;refine Dz (wpAny_lookBehind hoD (by rw [hdD];exact pastItsLine_dict (DM hcD (by rw [Gn,EP];exact DI hsz (by decide)))) ?_)
 wp_walk
 exact hq h' _ hn' hs
theorem o7{B sa owner:String}{bm:List DF}{tk:Tok}{R:Iq->DA->Prop}
 (SF:LZ B bm sa owner) (hC:h.get? C=some (excClassObj nm q C N bs bm true sn sub false col dd k0 k1 k2 k3 k5 "object.__new__")) (hn:h.Ns N mN) (hna:mN name=none)
 (hB:typeLookup (.type B) name=pure none) (hx:h.get? x=some o) (hc:o.cls=.ref C) (hnc:∀c,o.data≠.cls c) (hdx:o.dict=some dx) (hne:dx≠x) (hm:h.Ns1 dx mA)
 (hw:Within mA ns) (hsz:ns.length < 100) (hq:∀h' t',h'.Ns1 dx (λy=>if y=name then some v else mA y)->Fp dx h h'->R (.ok (.ret .none)) ⟨h',g,d,t',os⟩) :
 codeAny (model prog w) A (.call (.builtin sa) ⟨[.ref x,.str name tk,v],[]⟩) R ⟨h,g,d,t,os⟩:=
 Gw SF.slot.plain SF.entry (wpAny_check_sa SF hC hx hc (nh SF hC hn hna hB hx hc hnc hdx hne hm hw hsz hq))
theorem xD{B sa owner:String}{bm:List DF}{Q:Unit->DA->Prop}
 (SF:LZ B bm sa owner) (hC:h.get? C=some (excClassObj nm q C N bs bm true sn sub false col dd k0 k1 k2 k3 k5 "object.__new__")) (hn:h.Ns N mN) (hns:mN "__setattr__" = none) (hna:mN name=none)
 (hB:typeLookup (.type B) name=pure none) (hx:h.get? x=some o) (hc:o.cls=.ref C) (hnc:∀c,o.data≠.cls c) (hdx:o.dict=some dx) (hne:dx≠x) (hm:h.Ns1 dx mA)
 (hw:Within mA ns) (hsz:ns.length < 100) (hq:∀h' t',h'.Ns1 dx (λy=>if y=name then some v else mA y)->Fp dx h h'->Q () ⟨h',g,d,t',os⟩) :
 wpAny (model prog w) A (setAttr (.ref x) name v) Q Er ⟨h,g,d,t,os⟩:=by
 have f3:=SF.slot.bind (.ref x);unfold setAttr callSpecial? specialOf;repeat (any_goals (first | assumption | (with_reducible refine G3 hx ?_;rw [hc]) | (with_reducible refine IE hC hn SF.mro SF.slot.lookup ?_;rw [hns]) | wp_step))
 refine o7 SF hC hn hna hB hx hc hnc hdx hne hm hw hsz (λh' t' hn' hs=>?_);repeat (any_goals (first | assumption | wp_step))
 exact hq h' _ hn' hs
end
end
end
section
variable {c:Cx} {A:Em} {Er:DF->DA->Prop} {s:DA} {σ:aa} {L:ao}
theorem tZ(G:Gd c)(W:Wd c s σ L){p:al}{cl:Cl}{fs:List (String×PV)}{a:String}{v:DF}{V:PV}{Q:Unit->DA->Prop}(hp:σ p=some (.inst cl fs))(hl:fs.length < 20)(ha:a∈cl.attrs)
 (hv:ak L s.heap V v) (hQ:∀s',Wd c s' (σ.set p (.inst cl (dy fs a V))) L->Ex bZ s s' L L->Q () s'):wpAny (model c.prog c.w) A (setAttr (.ref (L.ad p)) (Dy a) v) Q Er s:=by
 obtain ⟨dx,ob,m,h1,h2,h3,h4,h5,h6,h7,h8,h9,h10,h11⟩:=W.objs p _ hp;obtain ⟨nm,q,N,bs,sn,sub,col,dd,k0,k1,k2,k3,k5,mN,hC,hn,c1,c2,c3,c4,c5,c6⟩:=G.cls cl;obtain ⟨hp1,hp2,hp3,hp4,hp5⟩:=s;refine xD PySem.F.store_object (W.keep _ _ hC) (hn.keeps W.keep) c3 (c6 a ha) (oe cl a ha) h1 h2 h3 h4 h6 h7 h11 (by rw [DD];exact DI hl (by decide)) λh' t hm' hs=>?_;have R:=W.change (s':=⟨h',hp2,hp3,t,hp5⟩) (L':=L) p (.inst cl (dy fs a V)) (by rw [hp];simp) (Ee hs.1.symm) (λb ob hb e=>(hs.2 b λq=>hb (q▸h5)).trans e) (λ_ _=>rfl) (λb hb=>.inl (W.fresh b hb))
  (λb hb=>W.fresh b (by rw [← hs.1];exact hb)) (λ_ _=>rfl) (λ_=>rfl) (W.own hp) (λVV=>?_) rfl rfl
 · exact hQ _ R.1 R.2
 · refine ⟨dx,ob,_,(hs.2 _ (λe=>h6 e.symm)).trans h1,h2,h3,h4,h5,h6,hm',λx u hx=>?_,λx u hx=>?_,λy pv hy=>?_,λy hy=>?_⟩
   · rw [gU] at hx;by_cases e:x=a
     · rw [if_pos e] at hx;exact ⟨v,if_pos (congrArg _ e),DN hx▸hv.mono VV⟩
     · rw [if_neg e] at hx;exact (h8 x u hx).imp λpv g=>⟨(if_neg λz=>e (Str.ofString_inj.mp z)).trans g.1,g.2.mono VV⟩
   · rw [gU] at hx;by_cases e:x=a
     · exact e▸ha
     · rw [if_neg e] at hx;exact h9 x u hx
   · by_cases e:y=Dy a
     · exact ⟨a,V,e,(gU ..).trans (if_pos rfl)⟩
     · rw [if_neg e] at hy;refine bf (h10 y pv hy) λx u g1 g2=>?_;exact ⟨x,u,g1,(gU ..).trans ((if_neg λ(z:x=a)=>e (z▸g1)).trans g2)⟩
   · obtain ⟨k1,k2⟩:=jt fs a V;by_cases e:y=Dy a
     · rw [e,DO];refine aN (DO.mp k2) λz hz hz2=>?_;exact ⟨z,hz,by rw [hz2]⟩
     · have hy:(if y=Dy a then some v else m y)≠none:=hy;rw [if_neg e] at hy;refine aN (DO.mp (h11 y hy)) λz hz hz2=>?_;refine aN (DO.mp (k1 z.1 (DO.mpr ⟨z,hz,rfl⟩))) λz' hz' hz2'=>?_;exact DO.mpr ⟨z',hz',by rw [hz2'];exact hz2⟩
theorem bN(W:Wd c s σ L){p:al}{l:List PV}(hp:σ p=some (.list l)):∃items,s.heap.IsList (L.ad p) items/\ag L s.heap l items.toList/\items.size=l.length:=
 bf (W.objs p _ hp) λitems n h1 h2=>⟨items,⟨_,h1,rfl,n,rfl⟩,h2,DT▸h2.length⟩
theorem fK(W:Wd c s σ L){p:al}{d:List (PV×PV)}(hp:σ p=some (.dict d)):s.TypeIs (.ref (L.ad p)) "dict":=
 bf (W.objs p _ hp) λ_ _ h1 _=>⟨_,h1,rfl⟩
theorem ju{i:Int}{n:Nat}(h0:0<=i)(h:i.toNat < n):seqIndex? i n=some i.toNat:=by
 have h1:¬i < 0:=L0.mpr h0;have h2:i < (n:Int):=(Mu h0).mp h;simp [seqIndex?,h1,h0,h2]
theorem eU{α:Type}{a:Array α}{n:Nat}{y:α}(h:a.toList[n]? = some y):a[n]? = some y/\n < a.size:=
 ⟨Eu.symm.trans h,DT▸(DR.mp h).1⟩
theorem t7(W:Wd c s σ L)(hu:A.units+60 < cLine){v i:DF}{V I:PV}{K:PV->aa->Prop}(hv:ak L s.heap V v)(hi:ak L s.heap I i)(h:eg σ K V I) :
 (∃T id,s.TypeIs v T/\typeLookup (.type T) "__getitem__" = pure (some (.builtin id)))/\wpAny (model c.prog c.w) A (getItem v i) (aq c s L K) Er s:=by
 revert hv hi;cases h with
 | @tup l n x h0 h1 hx hK=>
  refine λhv hi=>hv.tupE λa items k ha ho hl=>hi.intE λt=>aN (hl.get _ x hx) λy hy hr=>?_;exact ⟨⟨"tuple",_,⟨_,ha,rfl⟩,Kz.lookup⟩,getItem_tuple ⟨_,ha,rfl,k,rfl⟩ (KR (by decide) h0) (KS h1 (by decide)) (ju h0 (eU hy).2) (eU hy).1 (aq.here W hr hK)⟩
 | @str x n h0 h1 h2 hK=>
  refine λhv hi=>hv.strE λt=>hi.intE λu=>?_;have hlt:n.toNat < x.length:=(Mu h0).mpr h1;refine ⟨⟨"str",_,L6 _ _ _,I4.lookup⟩,SB.getItem ?_ ?_ (aq.toks W _ vS hK)⟩
  · unfold ay at h2;unfold fitsSsize;simp;lia
  · unfold Txt.charAt;rw [ju h0 hlt];show (x.cps[n.toNat]?).isSome=true;rw [D8 (show n.toNat < x.cps.size from hlt)];rfl
 | @li p l n x hp h0 h1 hx hK=>
  refine λhv hi=>hv.refE λ_=>hi.intE λt=>aZ (bN W hp) λitems hl hr hz=>aN (hr.get _ x hx) λy hy hxy=>?_;exact ⟨⟨"list",_,hl.typeIs,KU.lookup⟩,wpAny_getItem_list hl h0 (KS h1 (by decide)) (eU hy).1 (aq.here W hxy hK)⟩
 | @di p d _ x hp hk hx hK=>
  intro hv hi;refine ak.refE (m:=λv=>(∃T id,s.TypeIs v T/\typeLookup (.type T) "__getitem__" = pure (some (.builtin id)))/\wpAny (model c.prog c.w) A (getItem v i) (aq c s L K) Er s) hv λ_=>?_;have hT:=fK W hp;refine ⟨⟨"dict",_,hT,Gx.lookup⟩,?_⟩;refine D2 ?_;refine Dz (HY hT (by decide) ?_);refine Dz (Gc (name:=Dy "__getitem__") hT Gx
   (EH Gx hT KA ?_ (KW _ _)))
  exact Dz (m:=dictGet (L.ad p) i) (dK W (by show A.units+1+20 < cLine;lia) hp hk hi λt=>⟨λe=>(nomatch hx.symm.trans e),
   λy v e hy=>DE ⟨v,rfl,DE (aq.toks W t hy (DN (hx.symm.trans e)▸hK))⟩⟩)
theorem ag.set{L:ao}{h:EI}{x:PV}{v:DF}(hx:ak L h x v):∀{l:List PV} {vs:List DF} (i:Nat),ag L h l vs->ag L h (l.set i x) (vs.set i v)
 | [],_,_,e=>e.nilE .nil
 | _::_,_,0,e=>e.consE λ_ _ _ hr=>.cons hx hr
 | _::_,_,i+1,e=>e.consE λ_ _ hv hr=>.cons hv (.set hx i hr)
theorem ag.dropLast{L:ao}{h:EI}:∀{l:List PV} {vs:List DF},ag L h l vs->ag L h l.dropLast vs.dropLast
 | [],_,e=>e.nilE .nil
 | [_],_,e=>e.consE λ_ _ _ hr=>hr.nilE .nil
 | _::_::_,_,e=>e.consE λv r hv hr=>by
  have q:=hr.dropLast;revert q;exact hr.consE λ_ _ _ _ q=>.cons hv q
theorem ag.drop{L:ao}{h:EI}:∀{l:List PV} {vs:List DF} (n:Nat),ag L h l vs->ag L h (l.drop n) (vs.drop n)
 | _,_,0,e=>e
 | [],_,_+1,e=>e.nilE .nil
 | _::_,_,n+1,e=>e.consE λ_ _ _ hr=>hr.drop n
theorem ag.take{L:ao}{h:EI}:∀{l:List PV} {vs:List DF} (n:Nat),ag L h l vs->ag L h (l.take n) (vs.take n)
 | _,_,0,_=>.nil
 | [],_,_+1,e=>e.nilE .nil
 | _::_,_,n+1,e=>e.consE λ_ _ hv hr=>.cons hv (hr.take n)
theorem Wd.updL(W:Wd c s σ L){p:al}{o₀:PO}(hp:σ p=some o₀){l:List PV}{items:Array DF}{n:Nat}{h':EI}(t:Nat)(hs:Fp (L.ad p) s.heap h')
 (hl:h'.get? (L.ad p)=some ⟨.type "list",none,.seq items n,#[]⟩) (hr:ag L s.heap l items.toList) (hnf:∀l,o₀≠.froz l:=by intro l h;cases h) :
 Wd c {s with heap:=h',toks:=t} (σ.set p (.list l)) L/\Ex bZ s {s with heap:=h',toks:=t} L L:=
 W.upd hp (.list l) t hs (λV=>⟨items,n,hl,hr.mono V⟩) hnf
end
theorem Runs.size_le{M:HK}{Γ:Ctx}{p:Pos}{t:Sem Fin}{fs:List Frame}{s s':DA}{e:End}(h:Runs M Γ p t fs s e s'):s.heap.objs.size<=s'.heap.objs.size:=by
 induction h <;> (try simp only [Shared.setGen,JA,FD] at *) <;> lia
theorem Wakes.size_le{M:HK}{Γ:Ctx}{p:Pos}{g:Nat}{r:Resume}{s s':DA}{res:GenResult}(h:Wakes M Γ p g r s res s'):s.heap.objs.size<=s'.heap.objs.size:=by
 unfold Wakes at h;split at h
 · exact h.elim
 · split at h
   · obtain ⟨e₁,s₁,hr,_,_,rfl⟩:=h;exact (Runs.size_le hr:(s.setGen g .running).heap.objs.size<=s₁.heap.objs.size)
   · rw [h.2];exact DQ _
   · rw [h.2];exact DQ _
 · obtain ⟨e₁,s₁,hr,_,_,rfl⟩:=h;exact (Runs.size_le hr:(s.setGen g .running).heap.objs.size<=s₁.heap.objs.size)
 · rw [h.2];exact DQ _
 · rw [h.2];exact DQ _
theorem zM{α:Type}(M:HK)(Γ:Ctx)(n:Nat)(t:Sem α):∀(Q:α->Pos->DA->Prop) (E:DF->Pos->DA->Prop) (p:Pos) (s:DA),n<=s.heap.objs.size->Sem.wp M Γ t Q E p s->
 Sem.wp M Γ t (λa p' s'=>n<=s'.heap.objs.size/\Q a p' s') (λe p' s'=>n<=s'.heap.objs.size/\E e p' s') p s:=by
 induction t with
 | pure a=>intro Q E p s hn h;exact ⟨hn,h⟩
 | raise e=>intro Q E p s hn h;exact ⟨hn,h⟩
 | unsupported _=>intro Q E p s _ h;exact h
 | finish _=>intro Q E p s _ h;exact h
 | rule _ k ih=>intro Q E p s hn h;exact ih () Q E p s hn h
 | «at» p' k ih=>intro Q E p s hn h;exact ih () Q E p' s hn h
 | load a _ k ih=>intro Q E p s hn h;obtain ⟨o,ho,h⟩:=h;exact ⟨o,ho,ih o Q E p s hn h⟩
 | update a _ f k ih=>intro Q E p s hn h;exact ⟨h.1,ih () Q E p _ (by rw [JA];exact hn) h.2⟩
 | loadIfAlive a k ih=>intro Q E p s hn h;exact ih _ Q E p s hn h
 | point _ k ih=>intro Q E p s hn h;exact ih () Q E p s hn h
 | register _ _=>intro Q E p s _ h;exact h
 | alloc o k ih=>intro Q E p s hn h;exact ih _ Q E p _ (by show n<=(s.heap.push o).objs.size;rw [FD];exact DM hn (Ed _ _)) h
 | fresh k ih=>intro Q E p s hn h;exact ih _ Q E p _ hn h
 | ask k ih=>intro Q E p s hn h;exact ih _ Q E p s hn h
 | choose src m k ih=>intro Q E p s hn h;exact ⟨h.1,ih _ Q E p _ hn h.2⟩
 | os q _ k ih=>intro Q E p s hn h;exact ih _ Q E p _ hn h
 | call c hd _ _ k ih=>intro Q E p s hn h;obtain ⟨r,s',hr,h⟩:=h;exact ⟨r,s',hr,ih r Q E p s' (DM hn (Runs.size_le hr)) h⟩
 | handled own k ih=>intro Q E p s hn h;exact ih _ Q E p s hn h
 | genState g k ih=>intro Q E p s hn h;obtain ⟨st,hs,h⟩:=h;exact ⟨st,hs,ih _ Q E p s hn h⟩
 | newGen c k ih=>intro Q E p s hn h;exact ih _ Q E p _ hn h
 | resume g r _ k ih=>intro Q E p s hn h;obtain ⟨res,s',hw,h⟩:=h;exact ⟨res,s',hw,ih res Q E p s' (DM hn (Wakes.size_le hw)) h⟩
 | yield _ _ _ _=>intro Q E p s _ h;exact h
 | stack k ih=>intro Q E p s hn h;exact ih _ Q E p s hn h
 | fork _ _=>intro Q E p s _ h;exact h
 | thread k ih=>intro Q E p s hn h;exact ih _ Q E p s hn h
 | await _ _ _ _ _=>intro Q E p s _ h;exact h
section
variable {α:Type} {M:HK} {A:Em} {s:DA}
theorem aI{t:Sem α}{Q:α->DA->Prop}{E:DF->DA->Prop}
 (h:wpAny M A t (λa s'=>s.heap.objs.size<=s'.heap.objs.size->Q a s') E s):wpAny M A t Q E s:=by
 have h2:wpAny M A t (λa s'=>s.heap.objs.size<=s'.heap.objs.size/\(s.heap.objs.size<=s'.heap.objs.size->Q a s')) (λe s'=>s.heap.objs.size<=s'.heap.objs.size/\E e s') s:=
  λΓ p hΓ=>zM M Γ s.heap.objs.size t (λa _ s'=>s.heap.objs.size<=s'.heap.objs.size->Q a s') (λe _ s'=>E e s') p s (DQ _) (h Γ p hΓ)
 exact DU h2 (λ_ _ x=>x.2 x.1) (λ_ _ x=>x.2)
theorem AW{c:Code}{R:Iq->DA->Prop}(h:codeAny M A c (λr s'=>s.heap.objs.size<=s'.heap.objs.size->R r s') s):codeAny M A c R s:=
 λΓ p hc hΓ=>by obtain ⟨r,s',hr,hR⟩:=h Γ p hc hΓ;exact ⟨r,s',hr,hR (Runs.size_le hr)⟩
end
section
variable {c:Cx} {A:Em} {Er:DF->DA->Prop} {s:DA} {σ:aa} {L:ao}
theorem zN{h:EI}{a:Ep}{items:Array DF}{n:Nat}(f:Array DF->Array DF)(ho:h.get? a=some ⟨.type "list",none,.seq items n,#[]⟩) :
 ∃m,(h.update a (E7 f)).get? a=some ⟨.type "list",none,.seq (f items) m,#[]⟩:=by
 exact ⟨_,ED _ ho rfl⟩
theorem ua{l:Ep}{items:Array DF}{n:Nat}{k:Int}{t:Tok}{v:DF}{Q:Unit->DA->Prop}(ho:s.heap.get? l=some ⟨.type "list",none,.seq items n,#[]⟩)
 (h0:0<=k) (hfit:k < 2 ^ 63) (hn:k < items.size) (hQ:Q () {s with heap:=s.heap.update l (E7 (·.setIfInBounds k.toNat v))}):wpAny (model c.prog c.w) A (setItem (.ref l) (.int k t) v) Q Er s:=by
 have hl:s.heap.IsList l items:=⟨_,ho,rfl,n,rfl⟩;refine D2 ?_;refine Dz (HY hl.typeIs (by decide) ?_);refine Dz (Gc (name:=Dy "__setitem__") hl.typeIs KX
  (EH KX hl.typeIs entry_list_setitem ?_ (args_list_setitem _ _ _)))
 show wpAny _ _ (Builtin.List.listSubscript? (.int k t) >>= _) _ _ s;have hj:k.toNat < items.size:=by lia
 refine Dz (wpAny_listSubscript_int (fitsIndex_of h0 hfit) ?_);rw [← Ge h0];show wpAny _ _ ((seqItemAt l k.toNat >>= λr=>pure (r.map (k.toNat,·))) >>= _) _ _ s;refine Dz (Dz (wpAny_seqItemAt ho rfl (DE ?_)));rw [D8 hj];exact Dz (m:=setSeqItemAt l k.toNat v) (wpAny_setSeqItemAt ho rfl (Dz (DE (DE ⟨.none,rfl,DE hQ⟩))))
theorem ud(W:Wd c s σ L)(hu:A.units+60 < cLine){v i x:DF}{V I X:PV}{K:aa->Prop}{Q:Unit->DA->Prop}(hv:ak L s.heap V v)(hi:ak L s.heap I i)(hx:ak L s.heap X x)(h:eh σ K X V I)
 (hQ:∀s' σ',Wd c s' σ' L->Ex bZ s s' L L->K σ'->Q () s'):wpAny (model c.prog c.w) A (setItem v i x) Q Er s:=by
 revert hv hi;cases h with
 | @li p l n hp h0 h1 h2 hK=>
  refine λhv hi=>hv.refE λ_=>hi.intE λt=>bf (W.objs p _ hp) λitems m g1 g2=>?_;have hz:items.size=l.length:=DT▸g2.length;refine ua g1 h0 (KS h1 (by decide)) (by lia) ?_;have R:=W.updL hp s.toks (Ej ..) (ED (E7 (·.setIfInBounds n.toNat x)) g1 rfl) (l:=l.set n.toNat X) (by rw [I5];exact ag.set hx _ g2);exact hQ _ _ R.1 R.2 hK
 | @di p d _ hp hk hl hK=>
  refine λhv hi=>hv.refE λ_=>?_;have hT:=fK W hp;refine D2 ?_;refine Dz (HY hT (by decide) ?_);refine Dz (Gc (name:=Dy "__setitem__") hT KY
   (EH KY hT entry_dict_setitem ?_ (args_dict_setitem _ _ _)))
  refine Dz (m:=Builtin.Dict.notOrdered "__setitem__" ⟨[.ref (L.ad p),i,x],[]⟩) (GY hT ?_);exact Dz (m:=dictSet (L.ad p) i x) (tX W (by show A.units+1+20 < cLine;lia) hp hk hl hi hx λs' W' X'=>DE ⟨.none,rfl,DE (hQ s' _ W' X' hK)⟩)
theorem aq.newTup{Q:PV->aa->Prop}{l:List PV}{items:Array DF}{s':DA}{a:Ep}{n:Nat}(W:Wd c s σ L)(hz:s.heap.objs.size<=a)(hk:∀b o,s.heap.get? b=some o->s'.heap.get? b=some o)(hg:s'.gens=s.gens)(ho:s'.os=s.os)
 (ha:s'.heap.get? a=some ⟨.type "tuple",none,.seq items n,#[]⟩) (hl:ag L s.heap l items.toList) (h:Q (.tup l) σ):aq c s L Q (.ref a) s':=by
 have R:=W.grow (D9 (DC hz (Ec ha))) hk hg ho;exact ⟨.tup l,σ,L,R.1,R.2,⟨a,items,n,rfl,ha,W.fresh _ hz,hl.mono R.2.vm0⟩,h⟩
theorem aq.newList{Q:PV->aa->Prop}{l:List PV}{items:Array DF}{s':DA}{a:Ep}{n:Nat}(W:Wd c s σ L)(hz:s.heap.objs.size<=a)(hk:∀b o,s.heap.get? b=some o->s'.heap.get? b=some o)(hg:s'.gens=s.gens)(ho:s'.os=s.os)
 (ha:s'.heap.get? a=some ⟨.type "list",none,.seq items n,#[]⟩) (hl:ag L s.heap l items.toList) (h:aQ σ (.list l) Q):aq c s L Q (.ref a) s':=
 aq.new W h hz (Ec ha) hk (λp V=>⟨items,n,by rw [ao.add_ad];exact ha,hl.mono V⟩) hg ho
theorem fD{lo hi:Option Expr}{p:Pos}{o i:DF}:subscripted (.Slice lo hi none p) false o i=operate [i,o] (getItem o i):=rfl
theorem lU{x:Ek}{t:Tok}{l u:Option (Int×Tok)}{Q:DF->DA->Prop}(hl:(bQ x l u).length<=sizeLine)(h:∀t' k,Q (.str (bQ x l u) t') {s with toks:=k}):(sliceMade x t l u none).post Q s:=by
 unfold sliceMade;unfold bQ at h hl;by_cases e:(1 == 1 && (slicePicked x l u none).length == x.length)=true
 · rw [if_pos e] at h;have e':(((none:Option (Int×Tok)).map (·.1)).getD 1 == 1 && (slicePicked x l u none).length == x.length)=true:=e;rw [if_pos e'];exact h t s.toks
 · rw [if_neg e] at h hl;have e':¬(((none:Option (Int×Tok)).map (·.1)).getD 1 == 1 && (slicePicked x l u none).length == x.length)=true:=e;rw [if_neg e'];exact ⟨hl,h _ _⟩
theorem zO(W:Wd c s σ L){e:Expr}{env:Env}{n:Int}{pn ps p:Pos}{K:PV->aa->Prop}(h0:0<=n)
 (h:wpAny (model c.prog c.w) A (eval e env) (aq c s L λV σ1=>iL σ1 K n.toNat V) Er s) :
 wpAny (model c.prog c.w) A (eval (.Subscript e (.Slice (some (.Constant (.int n) 0 pn)) none none ps) p) env) (aq c s L K) Er s:=by
 refine KB (DU h (λv s₁ hv=>?_) λ_ _ x=>x);obtain ⟨V,σ1,L1,W1,X1,hr,hw⟩:=hv;refine ML (I6 (k:=0) (pos:=pn) ?_);rw [Mm];refine DE (DE ?_);have hk:∀b o,s₁.heap.get? b=some o->(s₁.heap.push {cls:=.type "slice",data:=.fields #[.int n s₁.toks,.none,.none]}).get? b=some o:=λb o e=>DJ _ e;obtain ⟨W₂,X2⟩:=W1.grow (s':={s₁ with heap:=s₁.heap.push {cls:=.type "slice",data:=.fields #[.int n s₁.toks,.none,.none]},toks:=s₁.toks+1}) (by simp) hk rfl rfl;have hsl:(s₁.heap.push {cls:=.type "slice",data:=.fields #[.int n s₁.toks,.none,.none]}).get? s₁.heap.objs.size=some {cls:=.type "slice",data:=.fields #[.int n s₁.toks,.none,.none]}:=DZ _ rfl;have X:=X1.trans X2;revert hr;cases hw with
 | @tup l a0 a1 a2 hK=>
  refine λhr=>hr.tupE λa items m ha ho hl=>?_;have hz:items.size=l.length:=DT▸hl.length;refine Kc (ops:=[.ref s₁.heap.objs.size,.ref a]) ⟨_,hk _ _ ha,rfl⟩ Kz.lookup (getItem_tuple_from ⟨_,hk _ _ ha,rfl,m,rfl⟩ ⟨_,hsl,rfl,by rw [Ge h0]⟩ a0 (hz▸a1) ?_ (hsz:=hz▸aV a2)) fD;refine aq.trans X (aq.newTup (n:=0) W₂ (DQ _) (λb o e=>DJ _ e) rfl rfl (DZ _ rfl) ?_ hK)
  simpa using (hl.mono X2.vm0).drop n.toNat
 | @str x a0 hK=>
  refine λhr=>hr.strE λt=>?_;have hps:(bQ x (some (n,s₁.toks)) none)=bQ x (some ((n.toNat:Int),0)) none:=by rw [Ge h0];rfl
  exact Kc (ops:=[.ref s₁.heap.objs.size,.str x t]) (L6 _ x t) I4.lookup (JB (t:=t) (a:=s₁.heap.objs.size) (l:=some (n,s₁.toks)) (u:=none) (st:=none) ⟨_,hsl,rfl,rfl⟩ rfl (lU (hps▸aV a0) λt' k=>
   aq.trans X (aq.toks W₂ _ vS (hps▸hK)))) fD
theorem ue{items:List DF}{m:Nat}{n:Int}(h0:0<=n)(hm:items.length=m):(items.drop ((none:Option Int).elim 0 (clipAt m))).take (((some n:Option Int)).elim m (clipAt m) - (none:Option Int).elim 0 (clipAt m))=items.take n.toNat:=by
 show (items.drop 0).take (clipAt m n - 0)=_;rw [L7,KP,show clipAt m n=min n.toNat m from ?_,← hm,← List.take_eq_take_min];rw [clipAt,if_neg (L0.mpr h0)];refine (GF h0).elim λj e=>?_;rw [e];rcases KO j m with h | h
 · rw [Int.min_eq_left (HZ.mpr h),Lq (EL _)];exact (LH h).symm
 · rw [Int.min_eq_right (HZ.mpr h),Lq (EL _)];exact (Nat.min_eq_right h).symm
theorem Cy(W:Wd c s σ L){e:Expr}{env:Env}{n:Int}{pn ps p:Pos}{K:PV->aa->Prop}(h0:0<=n)
 (h:wpAny (model c.prog c.w) A (eval e env) (aq c s L λV σ1=>pV σ1 K n.toNat V) Er s) :
 wpAny (model c.prog c.w) A (eval (.Subscript e (.Slice none (some (.Constant (.int n) 0 pn)) none ps) p) env) (aq c s L K) Er s:=by
 refine KB (DU h (λv s₁ hv=>?_) λ_ _ x=>x);obtain ⟨V,σ1,L1,W1,X1,hr,hw⟩:=hv;refine ML ?_;rw [Mm];refine DE (I6 (k:=0) (pos:=pn) (DE ?_));have hk:∀b o,s₁.heap.get? b=some o->(s₁.heap.push {cls:=.type "slice",data:=.fields #[.none,.int n s₁.toks,.none]}).get? b=some o:=λb o e=>DJ _ e;obtain ⟨W₂,X2⟩:=W1.grow (s':={s₁ with heap:=s₁.heap.push {cls:=.type "slice",data:=.fields #[.none,.int n s₁.toks,.none]},toks:=s₁.toks+1}) (by simp) hk rfl rfl;have hsl:(s₁.heap.push {cls:=.type "slice",data:=.fields #[.none,.int n s₁.toks,.none]}).get? s₁.heap.objs.size=some {cls:=.type "slice",data:=.fields #[.none,.int n s₁.toks,.none]}:=DZ _ rfl;have X:=X1.trans X2;have list:∀{a:Ep} {items:Array DF} {l:List PV},Heap.IsList (s₁.heap.push {cls:=.type "slice",data:=.fields #[.none,.int n s₁.toks,.none]}) a items->ag L1 (s₁.heap.push {cls:=.type "slice",data:=.fields #[.none,.int n s₁.toks,.none]}) l items.toList->l.length < ay->aQ σ1 (.list (l.take n.toNat)) K->
  wpAny (model c.prog c.w) A (subscriptTail e (.Slice none (some (.Constant (.int n) 0 pn)) none ps) (.ref a) (.ref s₁.heap.objs.size)) (aq c s L K) Er {s₁ with heap:=s₁.heap.push {cls:=.type "slice",data:=.fields #[.none,.int n s₁.toks,.none]},toks:=s₁.toks+1}:=λ{a items l} hl hr2 a0 hK=>by
  have hz:items.size=l.length:=DT▸hr2.length;refine Kc (ops:=[.ref s₁.heap.objs.size,.ref a]) hl.typeIs KU.lookup (wpAny_getItem_list_slice (lo:=none) (hi:=some n) (st:=none) hl ⟨_,hsl,rfl,rfl⟩ IsPart.none (IsPart.int _ _) IsPart.none (by simp) ?_ (hsz:=hz▸aV a0)) fD;refine aq.trans X (aq.newList (n:=0) W₂ (DQ _) (λb o e=>DJ _ e) rfl rfl (DZ _ rfl) ?_ hK);rw [slicePick_plain,ue h0 DT];exact hr2.take n.toNat
 revert hr;cases hw with
 | fr hp a0 hK=>exact λhr=>hr.refE λ_=>(W₂.objs _ _ hp).elim λitems h=>list h.1 h.2 a0 hK
 | li hp a0 hK=>exact λhr=>hr.refE λ_=>(bN W₂ hp).elim λitems h=>list h.1 h.2.1 a0 hK
 | @str x a0 hK=>
  refine λhr=>hr.strE λt=>?_;have hps:(bQ x none (some (n,s₁.toks)))=bQ x none (some ((n.toNat:Int),0)):=by rw [Ge h0];rfl
  exact Kc (ops:=[.ref s₁.heap.objs.size,.str x t]) (L6 _ x t) I4.lookup (JB (t:=t) (a:=s₁.heap.objs.size) (l:=none) (u:=some (n,s₁.toks)) (st:=none) ⟨_,hsl,rfl,rfl⟩ rfl (lU (hps▸aV a0) λt' k=>
   aq.trans X (aq.toks W₂ _ vS (hps▸hK)))) fD
theorem ug{i:Int}(h:i.natAbs < 2 ^ 62):Builtin.Int.intBits i<=64:=by
 unfold Builtin.Int.intBits;split
 · exact by decide
 · rename_i h0;have h1:i.natAbs≠0:=by intro e;exact h0 (by rw [beq_iff_eq];lia)
   have:=(MM h1).mpr h;exact DI this (by decide)
theorem AX(W:Wd c s σ L){op:LX}{v u:DF}{V U:PV}{K:PV->aa->Prop}(hv:ak L s.heap V v)(hu:ak L s.heap U u)(h:dr σ K op V U):wpAny (model c.prog c.w) A (binaryOp op v u) (aq c s L K) Er s:=by
 have x:∀{i:Int} {t:Tok} {k:Nat},K (.int i) σ->aq c s L K (.int i t) {s with toks:=k}:=λhQ=>aq.toks W _ vI hQ;revert hv hu;cases h with
 | addI hQ=>exact λhv hu=>hv.intE λ_=>hu.intE λ_=>add_int (x hQ)
 | addS hb hQ=>exact λhv hu=>hv.strE λ_=>hu.strE λ_=>SB.add (λt' k=>aq.toks W k vS hQ) (hsz:=aV hb)
 | @addT l l' hz hQ=>
  intro hv hu;refine iX hv λa xs n ea ha _ hl=>iX hu λb ys m eb hb _ hl'=>?_;have z1:xs.size=l.length:=DT▸hl.length;have z2:ys.size=l'.length:=DT▸hl'.length;have nil:∀{zs:Array DF} {k:List PV},ag L s.heap k zs.toList->zs.isEmpty=true->k=[]:=λ{zs k} h e=>by
   rw [Array.isEmpty_iff.mp e] at h;exact h.nilV rfl
  by_cases e1:xs.isEmpty=true
  · rw [ea,eb];rw [nil hl e1] at hQ;exact KZ ⟨_,ha,rfl⟩ ⟨_,hb,rfl⟩ JC Kw H0 HL (Hq _ _)
     (tuple_addW0 a b xs ys n m none none #[] #[] e1) ⟨ha,hb,aq.here W (eb▸hu) hQ⟩
  · by_cases e2:ys.isEmpty=true
    · rw [ea,eb];rw [nil hl' e2,Eg] at hQ;exact KZ ⟨_,ha,rfl⟩ ⟨_,hb,rfl⟩ JC Kw H0 HL (Hq _ _)
       (tuple_addW1 a b xs ys n m none none #[] #[] e1 e2) ⟨ha,hb,aq.here W (ea▸hv) hQ⟩
    · rw [ea,eb];exact KZ ⟨_,ha,rfl⟩ ⟨_,hb,rfl⟩ JC Kw H0 HL (Hq _ _)
       (tuple_addW2 a b xs ys n m none none #[] #[] e1 e2 (by rw [z1,z2];exact aV hz)) ⟨ha,hb,aq.newTup (n:=0) W (DQ _) (λb o e=>DJ _ e) rfl rfl (DZ _ rfl) (by rw [Hp];exact hl.append hl') hQ⟩
 | @addL p q l l' hp hq hb hQ=>
  refine λhv hu=>hv.refE λ_=>hu.refE λ_=>bf (W.objs _ _ hp) λxs n g1 g2=>bf (W.objs _ _ hq) λys m f1 f2=>?_;have z1:xs.size=l.length:=DT▸g2.length;have z2:ys.size=l'.length:=DT▸f2.length;exact P.add_list g1 f1 (aq.newList (n:=0) W (DQ _) (λb o e=>DJ _ e) rfl rfl (DZ _ rfl) (by rw [Hp];exact g2.append f2) hQ) (hsz:=by rw [z1,z2];exact aV hb)
 | sub hQ=>exact λhv hu=>hv.intE λ_=>hu.intE λ_=>sub_int (x hQ)
 | mul h1 h2 hQ=>exact λhv hu=>hv.intE λ_=>hu.intE λ_=>mul_int (x hQ) (IntMulOk.of_left (ug h1))
 | mod h1 hQ=>exact λhv hu=>hv.intE λ_=>hu.intE λ_=>mod_int' h1 (x hQ)
theorem AY(W:Wd c s σ L){v:DF}{i:Int}{K:PV->aa->Prop}(hv:ak L s.heap (.int i) v)(h:K (.int (-i)) σ):wpAny (model c.prog c.w) A (unaryOp .USub v) (aq c s L K) Er s:=
 hv.intE λ_=>neg_int (aq.toks W _ vI h)
end
section
variable {L:ao} {h:EI}
theorem kM:∀{ns:List Int} {vs:List DF},ag L h (ns.map .int) vs->G4 vs ns
 | [],_,r=>r.nilE .nil
 | n::_,_,r=>(show ag L h (.int n::_) _ from r).consE λ_ _ h1 h2=>h1.intE λt=>.cons n t (kM h2)
theorem nj{l:List PV}{ns:List Int}{vs:List DF}(e:a6 l=some ns)(r:ag L h l vs):G4 vs ns:=kM (a7 e▸r)
theorem jv{ns:List Int}{vs:List DF}(r:G4 vs ns):ag L h (ns.map .int) vs:=by
 induction r with
 | nil=>exact ag.nil
 | cons n t r ih=>exact ag.cons ⟨t,rfl⟩ ih
theorem cV{l:List PV}{ns:List Int}(e:a6 l=some ns):ns.length=l.length:=by rw [a7 e,DD]
theorem Ct{l:List PV}{ns:List Int}(e:a6 l=some ns)(i:Nat):l[i]? = (ns[i]?).map PV.int:=by
 rw [a7 e,Ef]
end
theorem kN:∀{vs:List DF} {ns:List Int},vs.length=ns.length->(∀(j:Nat) (v:DF),vs[j]? = some v->∃(n:Int) (t:Tok),ns[j]? = some n/\v=HM n t)->G4 vs ns
 | [],[],_,_=>.nil
 | [],_::_,e,_=>nomatch e
 | _::_,[],e,_=>nomatch e
 | v::vs,n::ns,e,h=>bf (h 0 v rfl) λn' t h1 h2=>by
  rw [h2,DN h1];exact .cons _ t (kN (Gj e) λj v hv=>h (j+1) v hv)
section
variable {c:Cx} {A:Em} {Er:DF->DA->Prop} {s:DA} {σ:aa} {L:ao}
theorem xE{i:Int}{v:DF}(h:ak L s.heap (.int i) v):(intKind c.prog c.w).is i v=true:=h.intE λ_=>show (i == i)=true from beq_self_eq_true i
inductive zc(c:Cx)(L:ao)(h:EI)(d:List (PV×PV))(ks:List Int)(es:List EB):Prop
 | mk (kvs:List (Int×DF)):Pairs (intKind c.prog c.w) es kvs->kvs.map (·.1)=ks->(∀e∈es,∃k,(intKind c.prog c.w).is k e.key=true/\e.hash=(intKind c.prog c.w).hash k)->ag L h (d.map (·.2)) (kvs.map (·.2))->zc c L h d ks es
theorem ui{d:List (PV×PV)}:∀{ks:List Int} {es:List EB},d.map (·.1)=ks.map .int->aA c.w L s.heap d es->zc c L s.heap d ks es:=by
 induction d with
 | nil=>
  intro ks es e R;rw [show es=[] from R,Gf.mp e.symm];exact ⟨[],.nil,rfl,λ_ h=>(DX h).elim,ag.nil⟩
 | cons x d ih=>
  intro ks es e R;cases ks with
  | nil=>exact (Gp _ _ e).elim
  | cons i ks=>
   refine R.consE λen er h1 h5=>?_;obtain ⟨kvs,g1,g2,g3,g4⟩:=ih (ES e).2 h5;have hx:x.1=.int i:=(ES e).1;have hk:=xE (c:=c) (hx▸h1.key);exact ⟨(i,en.val)::kvs,.cons hk rfl g1,congrArg _ g2,λz he=>(D5.mp he).elim (λq=>q▸⟨i,hk,by rw [h1.hash,hx];rfl⟩) (g3 z),ag.cons h1.val g4⟩
theorem ir(W:Wd c s σ L){p:al}{d:List (PV×PV)}{ks:List Int}(hp:σ p=some (.dict d))(e:a6 (d.map (·.1))=some ks) :
 ∃kvs ep,s.heap.DictAt (intKind c.prog c.w) (L.ad p) kvs ep/\kvs.map (·.1)=ks/\kvs.length=d.length/\ag L s.heap (d.map (·.2)) (kvs.map (·.2)):=by
 refine eB (W.objs p _ hp) λes n h1 h2 h3=>?_;obtain ⟨kvs,g1,g2,g3,g4⟩:=ui (c:=c) (a7 e) h2;have hlen:kvs.length=d.length:=by rw [← DD (·.2),g4.length,DD]
 refine ⟨kvs,n,⟨_,es,h1,⟨rfl,rfl,rfl⟩,rfl,λe he=>g3 e (Fu.mpr he),g1,?_⟩,g2,hlen,g4⟩;rw [g2];rw [a7 e] at h3;exact (E5.mp h3).imp λh e=>h (congrArg _ e)
theorem xF{k:Int}{v:DF}(h:Ly k v=true):∃t,v=.int k t:=by
 unfold Ly at h;split at h
 · rename_i i t;exact ⟨t,by rw [show i=k from beq_iff_eq.mp h]⟩
 · exact nomatch h
theorem lV{kvs:List (Int×DF)}{ks:List Int}{acc:Array DF}(hk:kvs.map (·.1)=ks)(h:ItemsOf (λi v=>∃k x,kvs[i]? = some (k,x)/\(intKind c.prog c.w).is k v=true) acc kvs.length):G4 acc.toList ks:=
 kN (by rw [DT,h.1,← hk,DD]) λj v hv=>bf (h.2 j v (Eu.symm.trans hv)) λk x h1 h2=>
  (xF h2).elim λt e=>⟨k,t,by rw [← hk,Ef,h1];rfl,e⟩
theorem lm(hh:A.handled=none){d:Ep}{kvs:List (Int×DF)}{ep:Nat}{ks:List Int}{Q:DF->DA->Prop}(lo:(d == sysModules)=false)(hd:s.heap.DictAt (intKind c.prog c.w) d kvs ep)(hk:kvs.map (·.1)=ks)(h64:kvs.length < 64)
 (h:∀h' t a out ns',s.heap.objs.size<=a->(∀b o,s.heap.get? b=some o->h'.get? b=some o)->(∃e,h'.get? a=some (seqObj "list" out e))->G4 out.toList ns'->ns'.Perm ks->ns'.Pairwise (·<=·)->Q (.ref a) {s with heap:=h',toks:=t}) :
 wpAny (model c.prog c.w) A (call (.builtin "sorted") [.ref d]) Q Er s:=by
 refine Jm Lz K6 K7 (Mv _) ?_;refine Dz (m:=checkCount "sorted" 1 1 _) (DE ?_);refine Dz (aI (MN (A:=A.in1) (kdl_dict lo) hh hd (by rw [EP];exact D9 (DI h64 (by decide))) λh' tk acc hkeep hacc hsz=>?_));have hI:=lV hk hacc;have hl:acc.toList.length < 64:=by rw [DT,hacc.1];exact h64
 refine Dz (IA ?_ (by rw [EP];exact D9 (DI hl (by decide))));have hoL:(h'.push {cls:=.type "list",data:=.seq acc.toList.toArray}).get? h'.objs.size=some (seqObj "list" acc.toList.toArray 0):=DZ _ rfl;refine Dz (D2 (EH Ke ⟨_,hoL,rfl⟩ JW (list_sort_tree (s:={s with heap:=h'.push {cls:=.type "list",data:=.seq acc.toList.toArray},toks:=tk}) hoL hI hl λout ns' a1 a2 a3=>⟨_,rfl,?_⟩) (L8 _)));refine DE ⟨_,rfl,h _ tk h'.objs.size out ns' hsz (λb o e=>?_) (sortedHeap_at hoL) a1 a2 a3⟩;have e':=hkeep b o e;have hlt:=Ec e';rw [sortedHeap_old (D1 hlt) (by rw [FD];exact En hlt)];exact DJ _ e'
theorem iu(val:Nat->Int):∀(n:Nat),preSum val n=((DV n).map val).sum
 | 0=>rfl
 | n+1=>by rw [preSum,iu val n,Gu,D4,IM];simp
theorem lW(ns:List Int):(DV ns.length).map (λi=>ns.getD i 0)=ns:=by
 refine G5 λi=>?_;rw [Ef];by_cases h:i < ns.length
 · rw [Gg h];simp [h]
 · rw [E8 (by simpa using h),E8 (by exact E2.mp h)];rfl
theorem og{ns:List Int}(h0:∀n∈ns,0<=n):∀(j:Nat),0<=preSum (λi=>ns.getD i 0) j/\preSum (λi=>ns.getD i 0) j<=preSum (λi=>ns.getD i 0) (j+1):=by
 intro j;have hp:∀i,0<=ns.getD i 0:=λi=>by
  by_cases q:i < ns.length
  · rw [EA,DW q];exact h0 _ (E9 q)
  · rw [EA,E8 (by exact E2.mp q)];exact F9 _
 induction j with
 | zero=>exact ⟨by simp [preSum],by simp only [preSum];have:=hp 0;lia⟩
 | succ j ih=>
  have:=hp j;have:=hp (j+1);simp only [preSum] at ih ⊢;lia
theorem kO{ns:List Int}(h0:∀n∈ns,0<=n):∀(k j:Nat),preSum (λi=>ns.getD i 0) j<=preSum (λi=>ns.getD i 0) (j+k)
 | 0,_=>F9 _
 | k+1,j=>KR (kO h0 k j) (og h0 (j+k)).2
theorem lX(bt:Nat->Nat->Bool):∀n,argBest bt n<=n
 | 0=>DQ _
 | n+1=>by
  unfold argBest;split
  · exact DQ _
  · exact FG (lX bt n)
theorem kP(val:Nat->Int):∀n j,j<=n->val j<=val (argBest (λi j=>decide (val i > val j)) n)
 | 0,j,h=>by rw [MO.mp h];exact F9 _
 | n+1,j,h=>by
  have ih:=kP val n;show _<=val (if decide (val (n+1) > val (argBest _ n))=true then n+1 else argBest _ n);by_cases q:decide (val (n+1) > val (argBest (λi j=>decide (val i > val j)) n))=true
  · rw [if_pos q];exact (Fh.mp (H7 h)).elim (λg=>KR (ih j (FS g)) (Int.le_of_lt (of_decide_eq_true q))) λg=>g▸F9 _
  · rw [if_neg q];exact (Fh.mp (H7 h)).elim (λg=>ih j (FS g)) λg=>g▸L0.mp λx=>q (decide_eq_true x)
theorem qi{vs:List DF}{ns:List Int}(h:G4 vs ns):∀(i:Nat) v,vs[i]? = some v->∃t,v=.int (ns.getD i 0) t:=by
 induction h with
 | nil=>exact λ_ _ e=>nomatch e
 | cons n t r ih=>
  intro i v e;cases i with
  | zero=>exact ⟨t,(DN e).symm⟩
  | succ i=>exact ih i v e
theorem Dg{vs:List DF}{ns:List Int}(h:G4 vs ns):vs.length=ns.length:=by
 induction h with
 | nil=>rfl
 | cons _ _ _ ih=>exact congrArg (·+1) ih
end
noncomputable def Bi.callee:Bi->DF
 | .len=>.builtin "len" | .sum=>.builtin "sum" | .max=>.builtin "max" | .sorted=>.builtin "sorted"
 | .list=>.type "list" | .dict=>.type "dict" | .tuple=>.type "tuple" | .str=>.type "str" | .int=>.type "int"
section
variable {c:Cx} {A:Em} {Er:DF->DA->Prop} {s:DA} {σ:aa} {L:ao}
theorem aq.grown{Q:PV->aa->Prop}{V:PV}{v:DF}{h':EI}{t:Nat}(W:Wd c s σ L)(hz:s.heap.objs.size<=h'.objs.size)(hk:∀b o,s.heap.get? b=some o->h'.get? b=some o)(hv:ak L h' V v)(h:Q V σ) :
 aq c s L Q v {s with heap:=h',toks:=t}:=by
 have R:=W.grow (s':={s with heap:=h',toks:=t}) hz hk rfl rfl;exact ⟨V,σ,L,R.1,R.2,hv,h⟩
theorem rZ(G:Gd c)(W:Wd c s σ L){p:al}{d:List (PV×PV)}(hp:σ p=some (.dict d))(hl:d.length < ay){Q:DF->DA->Prop}(hQ:∀t k,Q (.int d.length t) {s with toks:=k}) :
 wpAny (model c.prog c.w) A (call (.builtin "len") [.ref (L.ad p)]) Q Er s:=by
 have hT:=fK W hp;have hd:=W.notModules G hp;refine eB (W.objs p _ hp) λes n h1 h2 h3=>?_;have hz:=dX h2;unfold ay at hl;refine call_len_slot hT LI (λQ' hQ'=>EH LI hT F.entry_dict_len ?_ (F.args_dict_len_1 _)) (n:=d.length) (by lia) (by lia) (hQ _ _);show wpAny _ _ (dictSize (L.ad p) >>= _) _ _ s;refine Dz (Dz (G2 h1 rfl (DE ?_)));show wpAny _ _ (Builtin.Dict.pendingCount (L.ad p) >>= _) _ _ s;refine Dz (wpAny_pendingCount_other hd ?_);refine LC ?_;have e:((es.size:Int)+((0:Nat):Int))=d.length:=by rw [hz];simp
 rw [e];exact hQ'
theorem lp{prog:Fc}{w:Fs}{s:DA}{Q:List DF->DA->Prop}(it:Ep){T:String}{o:Obj}{items:Array DF}{n:Nat}(hT:T = "list"\/T = "tuple")
 (ho:s.heap.get? it=some o) (hc:o.cls=.type T) (hd:o.data=.seq items n)
 (hQ:∀h',s.heap.objs.size<=h'.objs.size/\(∀b o',s.heap.get? b=some o'->h'.get? b=some o')->Q items.toList {s with heap:=h'}) (hsz:items.size<=sizeLine) :
 wpAny (model prog w) A (collect (.ref it)) Q Er s:=
 aI (wpAny_collect_seq it hT ho hc hd (λh' hk hz=>hQ h' ⟨hz,hk⟩) hsz)
theorem iN(l:Ep)(o:Obj)(items:Array DF)(n:Nat)(hc:o.cls=.type "list")(hd:o.data=.seq items n)(hsz:items.size<=sizeLine) :
 Meets (FO.«tuple.__new__» ⟨[.type "tuple",.ref l],[]⟩)
  (λ_ R s=>s.heap.get? l=some o/\∀h':EI,s.heap.objs.size<=h'.objs.size/\(∀b o',s.heap.get? b=some o'->h'.get? b=some o')->R (.ok (.ret (.ref h'.objs.size))) {s with heap:=h'.push {cls:=.type "tuple",data:=.seq items}}):=
 .of_wp λprog w A R s h=>by
  obtain ⟨hp,g,d,tk,os⟩:=s;obtain ⟨ht,h⟩:=h;have hsub:=sub_tuple_self;have hinit:=init_tuple_lookup;have hmh:=madeHere_tuple;have hT:Shared.TypeIs ⟨hp,g,d,tk,os⟩ (.ref l) "list":=⟨o,ht,hc⟩
  wp_walk using wpAny_loadPart' ht,Hl hT,lp (hsz:=hsz) l (.inl rfl) ht hc hd
  intro h' hk;show wpAny _ _ (Builtin.Tuple.tupleExact items.toList.toArray >>= λv=>ret v) _ _ _;refine Dz (FH ?_ (by show items.toList.toArray.size<=sizeLine;simpa using hsz));refine DE ⟨_,rfl,?_⟩;have e:items.toList.toArray=items:=by simp
  rw [e];exact h h' hk
theorem lr{l:Ep}{items:Array DF}{Q:DF->DA->Prop}(hl:s.heap.IsList l items)
 (h:∀h':EI,s.heap.objs.size<=h'.objs.size/\(∀b o',s.heap.get? b=some o'->h'.get? b=some o')->Q (.ref h'.objs.size) {s with heap:=h'.push {cls:=.type "tuple",data:=.seq items}})
 (hsz:items.size<=sizeLine) :
 wpAny (model c.prog c.w) A (call (.type "tuple") [.ref l]) Q Er s:=by
 obtain ⟨o,ho,hc,n,hd⟩:=hl;exact callType_new PySem.F.called_tuple (by decide) (PySem.F.typeCall_tuple_1 _) (PySem.F.newCall_tuple_1 _) (λobj=>PySem.F.args_object_init_2 obj _) PySem.F.entry_tuple_new
  (iN l o items n hc hd hsz) ⟨ho,λh' hk=>⟨⟨_,DZ _ rfl,rfl⟩,h h' hk⟩⟩
theorem lY{n:Nat}(h:n < 2 ^ 60):n.log2 < 1920:=by
 rcases KD n with rfl | q
 · decide
 · have:=(MM (by lia)).mpr h;exact DI this (by decide)
theorem zd{n:Nat}(h:n < ay):(n:Int) < 2 ^ 63:=EG.mpr (DH h (by decide:ay < 2 ^ 63))
theorem ze{n:Nat}(h:n < ay):¬(n:Int)>=2 ^ 63:=Int.not_le.mpr (zd h)
theorem qj{ns:List Int}{j:Nat}(h:j < ns.length):ns.getD j 0∈ns:=by
 rw [EA,DW h];exact E9 _
theorem xG{ns:List Int}(h0:∀n∈ns,0<=n)(hs:ns.sum < 2 ^ 62){m j:Nat}(hm:ns.length=m)(hj:j < m):InLong (ns.getD j 0)/\InLong (preSum (λi=>ns.getD i 0) (j+1)):=by
 have e1:=(og h0 j).1;have e3:=kO h0 (m - (j+1)) (j+1);rw [Kn hj,← hm,iu _ ns.length,lW] at e3;have e4:preSum (λi=>ns.getD i 0) (j+1)=preSum (λi=>ns.getD i 0) j+ns.getD j 0:=rfl;have e5:0<=ns.getD j 0:=h0 _ (qj (hm▸hj));clear h0 hm hj;constructor <;> constructor <;> lia
theorem Cz(G:Gd c)(W:Wd c s σ L)(hh:A.handled=none)(hu:A.units+60 < cLine) (hdict:∀(p:al) (l:List PV) (Q:PV->aa->Prop),σ p=some (.list l)->l.length < ay->cJ l [] (λd=>aQ σ (.dict d) Q)->
 wpAny (model c.prog c.w) A (call (.type "dict") [.ref (L.ad p)]) (aq c s L Q) Er s)
 {f:Bi} {args:List PV} {vs:List DF} {Q:PV->aa->Prop} (hr:ag L s.heap args vs) (h:bC σ Q f args):wpAny (model c.prog c.w) A (call f.callee vs) (aq c s L Q) Er s:=by
 have mkInt:∀(i:Int) (t k:Nat),Q (.int i) σ->aq c s L Q (.int i t) {s with toks:=k}:=λi t k hQ=>aq.toks W k vI hQ;revert hr;cases h with
 | lenL hp hb hQ=>
  refine λhr=>hr.oneE λv hv=>hv.refE λ_=>aZ (bN W hp) λitems hl hr2 hz=>?_;exact call_len_list hl (zd (hz▸hb)) (hz▸mkInt _ _ _ hQ)
 | lenD hp hb hQ=>exact λhr=>hr.oneE λv hv=>hv.refE λ_=>rZ G W hp hb λt k=>mkInt _ _ _ hQ
 | @lenT l hb hQ=>
  refine λhr=>hr.oneE λv hv=>hv.tupE λa items n ha ho hl=>?_;have hz:items.size=l.length:=DT▸hl.length;exact P.len_tuple ha (ze (hz▸hb)) (hz▸mkInt _ _ _ hQ)
 | lenS hb hQ=>exact λhr=>hr.oneE λv hv=>hv.strE λ_=>P.len_str (ze hb) (mkInt _ _ _ hQ)
 | @list p l hp hb hQ=>
  refine λhr=>hr.oneE λv hv=>hv.refE λ_=>bf (W.objs p _ hp) λitems n g1 g2=>?_;exact call_list_seq (L.ad p) (.inl rfl) g1 rfl rfl (λh' c' hk ha=>aq.newList W (DQ _) hk rfl rfl ha g2 hQ) ((DT▸g2.length:items.size=l.length)▸aV hb)
 | dict hp hb hQ=>exact λhr=>hr.oneE λv hv=>hv.refE λ_=>hdict _ _ Q hp hb hQ
 | tupL hp hb hQ=>
  refine λhr=>hr.oneE λv hv=>hv.refE λ_=>aZ (bN W hp) λitems hl hr2 hz=>?_;exact lr hl (λh' hk=>aq.newTup (n:=0) W hk.1 (λb o e=>DJ _ (hk.2 b o e)) rfl rfl (DZ _ rfl) hr2 hQ) (hz▸aV hb)
 | @tupT l hQ=>exact λhr=>hr.oneE λv hv=>iX hv λa items n e ha ho hl=>e▸call_tuple_tup ⟨_,ha,rfl,n,rfl⟩ (aq.here W (e▸hv) hQ)
 | str hi hQ=>exact λhr=>hr.oneE λv hv=>hv.intE λ_=>P.str_of_int (lY hi) (aq.toks W _ vS hQ)
 | intI hQ=>exact λhr=>hr.oneE λv hv=>hv.intE λ_=>call_int_int (aq.here W vI hQ)
 | intS n h1 h2 hQ=>exact λhr=>hr.oneE λv hv=>hv.strE λ_=>KIN.call_text h1 h2 (mkInt _ _ _ hQ)
 | @sum p l ns hp e hb h0 hs hQ=>
  refine λhr=>hr.oneE λv hv=>hv.refE λ_=>aZ (bN W hp) λitems hl hr2 hz=>?_;have hI:=nj e hr2;have hlt:=W.adlt (W.own hp);have hlen:items.size=ns.length:=hz.trans (cV e).symm;have tot:preSum (λi=>ns.getD i 0) items.size=ns.sum:=by rw [hlen,iu,lW]
  refine aI (call_sum_walk (G6 hl ?_));refine ⟨_,_,_,_,_,_,λi=>ns.getD i 0,rfl,Walks.list (A:=A.in1) hh s.heap.objs.size (L.ad p) (D1 hlt) items,⟨⟨_,DZ _ rfl,rfl,rfl⟩,hl.push _⟩,λb hb=>?_,λi v hv=>qi hI i v (Eu.trans hv),λj hj=>?_,λh' tk t' hk hsz=>?_⟩
  · rw [FD];exact (D5.mp hb).elim (λe=>e▸D6 _) λe=>DS.mp e▸En hlt
  · exact xG h0 hs hlen.symm hj
  · rw [tot];exact aq.grown (t:=tk) W hsz (λb o e=>hk b o (λhb=>D1 (Ec e) (DS.mp hb)) (DJ _ e)) vI hQ
 | @max p l ns hp e hb hne0 hQ=>
  refine λhr=>hr.oneE λv hv=>hv.refE λ_=>aZ (bN W hp) λitems hl hr2 hz=>?_;have hI:=nj e hr2;have hlt:=W.adlt (W.own hp);have hlen:items.size=ns.length:=hz.trans (cV e).symm;have hpos:0 < ns.length:=List.length_pos_iff.mpr hne0;refine aI (call_max_walk (G6 hl ?_));have hval:∀(i:Nat) (v:DF),items[i]? = some v->∃t,v=.int (ns.getD i 0) t:=λi v hv=>qi hI i v (Eu.trans hv);refine ⟨_,_,_,_,_,_,_,rfl,Walks.list (A:=A.in1) hh s.heap.objs.size (L.ad p) (D1 hlt) items,⟨⟨_,DZ _ rfl,rfl,rfl⟩,hl.push _⟩,λb hb=>?_,hlen▸hpos,CmpOf.ints_gt (λi=>ns.getD i 0) hval,λv h' tk hv hk hsz=>?_⟩
  · rw [FD];exact (D5.mp hb).elim (λe=>e▸D6 _) λe=>DS.mp e▸En hlt
  · refine (hval _ v hv).elim λt ev=>?_;rw [ev];refine aq.grown (t:=tk) W hsz (λb o e=>hk b o (λhb=>D1 (Ec e) (DS.mp hb)) (DJ _ e)) vI (hQ _ ?_ λx hx=>?_)
    · have hle:=lX (λi j=>decide (ns.getD i 0 > ns.getD j 0)) (items.size - 1);exact qj (DC hle (by lia))
    · refine (FI.mp hx).elim λj hj=>?_;have:=kP (λi=>ns.getD i 0) (items.size - 1) j (by have:=(DR.mp hj).1;lia)
      rwa [EA,hj] at this
 | sortL ns hp e hb hQ=>
  refine λhr=>hr.oneE λv hv=>hv.refE λ_=>aZ (bN W hp) λitems hl hr2 hz=>?_;refine sorted_ints (vs:=items.toList) hl (nj e hr2) (by rw [DT,hz];exact hb) λout ns' a1 a2 a3=>?_;exact (sortedAll_at s.heap items.toList out).elim λe1 he1=>aq.newList (n:=e1) W (E6 _) (λb o e=>sortedAll_old e) rfl rfl he1 (jv a1) (hQ ns' a2 a3)
 | sortD ns hp e hb hQ=>
  refine λhr=>hr.oneE λv hv=>hv.refE λ_=>pO (ir W hp e) λkvs ep g1 g2 g3 g4=>?_;exact lm hh (W.notModules G hp) g1 g2 (g3▸hb) λh' t a out ns' hz hk ha a1 a2 a3=>
   ha.elim λe1 he1=>aq.newList (n:=e1) W hz hk rfl rfl he1 (jv a1) (hQ ns' a2 a3)
end
noncomputable def MK.callee:MK->DF
 | .fn f=>.ref f.addr
 | .lAppend=>.builtin "list.append" | .lExtend=>.builtin "list.extend" | .lPop=>.builtin "list.pop"
 | .dGet=>.builtin "dict.get" | .dPop=>.builtin "dict.pop" | .dSetdef=>.builtin "dict.setdefault"
 | .sIsspace=>.builtin "str.isspace"
theorem AZ:∀cl:Cl,(cl.meths.all λa=>(fastLookup "object" (Dy a.1)).isSome)=true:=by
 intro cl;cases cl <;> kernel_rfl
theorem db{α:Type}{x:String}{a:α}:∀{l:List (String×α)},l.lookup x=some a->(x,a)∈l
 | [],h=>nomatch h
 | (y,b)::r,h=>by
  rw [ET] at h;cases e:x == y with
  | true=>rw [e] at h;rw [beq_iff_eq.mp e,DN h];exact .head _
  | false=>rw [e] at h;exact .tail _ (db h)
theorem sF{α:Type}{m a1 a2 a3:String}{k b1 b2 b3:α}{P:String->α->Prop}(h:IF m [(a1,b1),(a2,b2),(a3,b3)]=some k)(h1:P a1 b1)(h2:P a2 b2)(h3:P a3 b3):P m k:=
 IG (p:=λx:String×α=>P x.1 x.2) |>.mpr ⟨h1,IG (p:=λx:String×α=>P x.1 x.2) |>.mpr ⟨h2,IG (p:=λx:String×α=>P x.1 x.2) |>.mpr ⟨h3,λ_ h=>(DX h).elim⟩⟩⟩ (m,k) (db h)
section
variable {c:Cx} {A:Em} {Er:DF->DA->Prop} {s:DA} {σ:aa} {L:ao}
theorem vL{cl:Cl}{m:String}{f:Fn}(h:cl.meth m=some f):∃y,typeLookup (.type "object") (Dy m)=pure y:=by
 have:=Et.mp (AZ cl) _ (db h);rw [Fz,EN];exact (FJ.mp this).elim λx q=>⟨_,by rw [q]⟩
theorem nq(G:Gd c)(W:Wd c s σ L){p:al}{cl:Cl}{fs:List (String×PV)}{m:String}{f:Fn}{pl:Sem Bool}{Q:DF×List DF->DA->Prop}(hp:σ p=some (.inst cl fs))(hf:cU fs m=none)(hm:cl.meth m=some f)
 (hQ:Q (.ref f.addr,[.ref (L.ad p)]) s):wpAny (model c.prog c.w) A (getMethod (.ref (L.ad p)) (Dy m) pl) Q Er s:=by
 obtain ⟨dx,ob,mm,h1,h2,h3,h4,h5,h6,h7,h8,h9,h10,h11⟩:=W.objs p _ hp;obtain ⟨nm,q,N,bs,sn,sub,col,dd,k0,k1,k2,k3,k5,mN,hC,hn,c1,c2,c3,c4,c5,c6⟩:=G.cls cl;obtain ⟨fd,hfd,_⟩:=G.fns f;obtain ⟨y,hy⟩:=vL hm;refine method_of (h:=s.heap) (W.keep _ _ hC) (hn.keeps W.keep) c1 c2 (c5 m f hm) (W.keep _ _ hfd) rfl hy ⟨ob,h1,h2,h3,.inr ⟨dx,h4,h6,h7⟩⟩ ?_ hQ;refine HV.mpr λpv e=>bf (h10 _ _ e) λx u g1 g2=>?_;rw [← Str.ofString_inj.mp g1,hf] at g2;exact nomatch g2
theorem o8(W:Wd c s σ L){p:al}{l:List PV}{m:String}{mk:MK}{pl:Sem Bool}{Q:DF×List DF->DA->Prop}(hp:σ p=some (.list l))(h:pS.lookup m=some mk)
 (hQ:Q (mk.callee,[.ref (L.ad p)]) s):wpAny (model c.prog c.w) A (getMethod (.ref (L.ad p)) (Dy m) pl) Q Er s:=by
 refine bf (W.objs p _ hp) λitems n g1 g2=>?_;have hd:∀a,F7 (L.ad p)=.ref a->∃ob,s.heap.get? a=some ob/\ob.dict=none:=λa e=>⟨_,Value.ref.inj e▸g1,rfl⟩;exact sF (P:=λm (mk:MK)=>Q (mk.callee,[.ref (L.ad p)]) s->wpAny (model c.prog c.w) A (getMethod (.ref (L.ad p)) (Dy m) pl) Q Er s) h
  (Gy ⟨_,g1,rfl⟩ HN PySem.F.slot_list_append PySem.F.type_list_append hd)
  (Gy ⟨_,g1,rfl⟩ HN Jr PySem.F.type_list_extend hd)
  (Gy ⟨_,g1,rfl⟩ HN PySem.F.slot_list_pop PySem.F.type_list_pop hd) hQ
theorem o9(W:Wd c s σ L){p:al}{l:List (PV×PV)}{m:String}{mk:MK}{pl:Sem Bool}{Q:DF×List DF->DA->Prop}(hp:σ p=some (.dict l))(h:pT.lookup m=some mk)
 (hQ:Q (mk.callee,[.ref (L.ad p)]) s):wpAny (model c.prog c.w) A (getMethod (.ref (L.ad p)) (Dy m) pl) Q Er s:=by
 refine bf (W.objs p _ hp) λitems n g1 g2=>?_;have hd:∀a,F7 (L.ad p)=.ref a->∃ob,s.heap.get? a=some ob/\ob.dict=none:=λa e=>⟨_,Value.ref.inj e▸g1,rfl⟩;exact sF (P:=λm (mk:MK)=>Q (mk.callee,[.ref (L.ad p)]) s->wpAny (model c.prog c.w) A (getMethod (.ref (L.ad p)) (Dy m) pl) Q Er s) h
  (Gy ⟨_,g1,rfl⟩ HO Il PySem.F.type_dict_get hd)
  (Gy ⟨_,g1,rfl⟩ HO J2 PySem.F.type_dict_pop hd)
  (Gy ⟨_,g1,rfl⟩ HO IP PySem.F.type_dict_setdefault hd) hQ
theorem jw(G:Gd c)(W:Wd c s σ L){v:DF}{V:PV}{m:String}{mk:MK}{pl:Sem Bool}{Q:DF×List DF->DA->Prop}(hv:ak L s.heap V v)(h:ff σ V m=some mk)
 (hQ:Q (mk.callee,[v]) s):wpAny (model c.prog c.w) A (getMethod v (Dy m) pl) Q Er s:=by
 revert hv hQ;cases V with
 | ref p=>
  refine λhv=>hv.refE λ_ hQ=>(FM.mp (h:(σ p).bind (iK m)=some mk)).elim λo q=>?_;cases o with
  | inst cl fs=>
   have h:(if (cU fs m).isNone=true then (cl.meth m).map .fn else none)=some mk:=q.2;by_cases e:(cU fs m).isNone=true
   · rw [if_pos e] at h;exact (Ew.mp h).elim λf r=>nq G W q.1 (ER.mp e) r.1 (by rw [← r.2] at hQ;exact hQ)
   · rw [if_neg e] at h;exact (Eh _ h.symm).elim
  | list l=>exact o8 W q.1 q.2 hQ
  | dict d=>exact o9 W q.1 q.2 hQ
  | _=>exact (Eh _ q.2.symm).elim
 | str x=>
  refine λhv=>hv.strE λt hQ=>?_;have h:(if m = "isspace" then some MK.sIsspace else none)=some mk:=h;by_cases e:m = "isspace"
  · rw [if_pos e] at h;rw [← DN h] at hQ;exact e▸GM.isspace hQ
  · rw [if_neg e] at h;exact (Eh _ h.symm).elim
 | _=>exact (Eh _ h.symm).elim
theorem qk{Q:PV->aa->Prop}{s':DA}{σ':aa}(R:Wd c s' σ' L/\Ex bZ s s' L L)(h:Q .none σ'):aq c s L Q .none s':=⟨.none,σ',L,R.1,R.2,rfl,h⟩
theorem CA(G:Gd c)(W:Wd c s σ L)(hu:A.units+60 < cLine){V:PV}{v:DF}{mk:MK}{args:List PV}{vs:List DF}{Q:PV->aa->Prop}(hv:ak L s.heap V v)(hr:ag L s.heap args vs)
 (h:cb σ Q mk V args):wpAny (model c.prog c.w) A (call mk.callee (v::vs)) (aq c s L Q) aY s:=by
 have hu2:A.in1.units+20 < cLine:=by show A.units+1+20 < cLine;lia
 revert hv hr;cases h with
 | @app p x l hp hb hQ=>
  refine λhv hr=>hv.refE λ_=>hr.oneE λu hx=>bf (W.objs p _ hp) λitems n g1 g2=>?_;exact Mt g1 (λh' hs ha=>qk (W.updL hp s.toks hs ha (l:=l ++ [x]) (by rw [Fo];exact g2.append (ag.cons hx ag.nil))) hQ) ((DT▸g2.length:items.size=l.length)▸aV hb)
 | @ext p q l l' hp hq hb hQ=>
  refine λhv hr=>hv.refE λ_=>hr.oneE λu hx=>hx.refE λ_=>bf (W.objs p _ hp) λitems n g1 g2=>bf (W.objs q _ hq) λitems2 m f1 f2=>?_;have hz:items.size=l.length:=DT▸g2.length;have hz2:items2.size=l'.length:=DT▸f2.length;have hsz:items.size+items2.size<=sizeLine:=by rw [hz,hz2];exact aV hb
  exact call_meets Jr ⟨_,g1,rfl⟩ PySem.F.entry_list_extend (PySem.F.args_list_extend_2 _ _) (AutoSeq1.list_extend_list_list_0 (L.ad p) items n (L.ad q) items2 m (extend_door hsz) (DM (Ed _ _) hsz) (FG hsz)) ⟨g1,f1,
   qk (W.updL hp s.toks (Ej ..) (ED (E7 λxs=>xs ++ items2) g1 rfl) (l:=l ++ l') (by rw [Hp];exact g2.append f2)) hQ⟩
 | @pop p l x hp hx hb hQ=>
  refine λhv hr=>hv.refE λ_=>hr.nilE (bf (W.objs p _ hp) λitems n g1 g2=>?_);have hz:items.size=l.length:=DT▸g2.length;rw [List.getLast?_eq_getElem?] at hx;refine aN (g2.get _ x hx) λy hy hxy=>?_;refine Copied.pop_at g1 (y:=y) (by rw [hz];exact (eU hy).1) (λh' hs ha=>?_) (hz▸aV hb);have R:=W.updL hp s.toks hs ha (l:=l.dropLast) (by rw [Array.toList_pop];exact g2.dropLast);exact ⟨x,_,L,R.1,R.2,hxy.mono R.2.vm0,hQ⟩
 | @get p d x hp hd hQ=>
  refine λhv hr=>hv.refE λ_=>hr.oneE λu hx=>?_;refine EH Il (fK W hp) H9 ?_ (JD _ _);refine Dz (m:=dictGet (L.ad p) u) (dK W hu2 hp hd hx λt=>⟨λe=>?_,λy w e hy=>?_⟩)
  · rw [e] at hQ;exact Dz (m:=Builtin.Dict.missed (L.ad p) u) (KE (W.notModules G hp) (DE ⟨.none,rfl,aq.toks W t vN hQ⟩))
  · rw [e] at hQ;exact DE ⟨w,rfl,aq.toks W t hy hQ⟩
 | @dpop p d i y hp hk hl hy hQ=>
  refine λhv hr=>hv.refE λ_=>hr.oneE λu hx=>ak.intE (m:=λu=>wpAny (model c.prog c.w) A (call (MK.callee .dPop) [.ref (L.ad p),u]) (aq c s L Q) aY s) hx λt=>?_;have hT:=fK W hp;refine EH J2 hT PySem.F.entry_dict_pop ?_ (PySem.F.args_dict_pop_2 _ _);refine Dz ?_;refine Dz (GY hT ?_);show wpAny _ _ (pure (L.ad p,HM i t,none)) _ _ s;refine DE ?_;refine Dz (DE ?_);refine Dz (tY W hu2 hp hk hl vI hy λs' e W' X' he=>?_);exact Dz (MP (DE ⟨e.val,rfl,y,_,L,W',X',he,hQ⟩))
 | @setd p d x y hp hk hl h1 h2=>
  refine λhv hr=>hv.refE λ_=>hr.consE λu r hx hr=>hr.oneE λz hy=>?_;have hT:=fK W hp;refine EH IP hT PySem.F.entry_dict_setdefault ?_ (PySem.F.args_dict_setdefault_3 _ _ _);refine Dz ?_;refine Dz (GY hT ?_);show wpAny _ _ (pure (L.ad p,u,some z)) _ _ s;refine DE ?_;show wpAny _ _ (if (L.ad p == sysModules)=true then _ else (dictSetDefault (L.ad p) u z >>= _)) _ _ s;rw [if_neg (by rw [W.notModules G hp];exact DY)];exact Dz (kF W hu2 hp hk hl hx hy (λs' W' X' e=>DE ⟨z,rfl,y,_,L,W',X',hy.mono X'.vm0,h2 e⟩) λt w r e hw=>DE ⟨r,rfl,aq.toks W t hw (h1 _ e)⟩)
 | sp hQ=>exact λhv hr=>hr.nilE (hv.strE λt=>SC.isspace (aq.here W (V:=.bool _) rfl hQ))
theorem zP(G:Gd c)(W:Wd c s σ L)(hu:A.units+60 < cLine){k:Nat}(hR:bl k A){V:PV}{v:DF}{mk:MK}{args:List PV}{vs:List DF}{Q:PV->aa->Prop}(hv:ak L s.heap V v)(hr:ag L s.heap args vs)
 (h:pU (aj c) k mk V args σ Q):wpAny (model c.prog c.w) A (call mk.callee (v::vs)) (aq c s L Q) aY s:=by
 cases mk with
 | fn f=>exact h A s L (v::vs) hR W (ag.cons hv hr)
 | _=>exact CA G W hu hv hr h
end
structure dU(c:Cx)(t:Tg)(I:Ep)(B:Ep->Prop)(chk:aa->Prop)(l:List PV)(St:Nat->ao->EI->Prop)(Mid:Nat->DF->ao->EI->Prop):Prop where
 keep:∀(i:Nat) (L L':ao) (s s':DA),St i L s.heap->VM s s' L L'->(∀b o,B b->s.heap.get? b=some o->s'.heap.get? b=some o)->St i L' s'.heap
 item:∀(A:Em) (i:Nat) (s:DA) (σ:aa) (L:ao) (x:PV) (Q:Option DF->DA->Prop) (E:DF->DA->Prop),A.handled=none->Wd c s σ L->(∀b,B b->L.own b=none)->chk σ->St i L s.heap->l[i]? = some x->
  (∀v h' t,ak L h' x v->Mid i v L h'->(∀b o,¬B b->s.heap.get? b=some o->h'.get? b=some o)->s.heap.objs.size<=h'.objs.size->Q (some v) {s with heap:=h',toks:=t})->wpAny (model c.prog c.w) A (pyNext (.ref I)) Q E s
 go:∀(A:Em) (i:Nat) (v:DF) (s:DA) (L:ao) (Q:Unit->DA->Prop) (E:DF->DA->Prop),Mid i v L s.heap->
  (∀h',St (i+1) L h'->(∀b o,¬B b->s.heap.get? b=some o->h'.get? b=some o)->s.heap.objs.size<=h'.objs.size->Q () {s with heap:=h'})->wpAny (model c.prog c.w) A (letOwnedTupleGo t.py (.ref I) v) Q E s
 done:∀(A:Em) (s:DA) (σ:aa) (L:ao) (Q:Option DF->DA->Prop) (E:DF->DA->Prop),A.handled=none->Wd c s σ L->(∀b,B b->L.own b=none)->chk σ->St l.length L s.heap->
  (∀h' t,(∀b o,¬B b->s.heap.get? b=some o->h'.get? b=some o)->s.heap.objs.size<=h'.objs.size->Q none {s with heap:=h',toks:=t})->wpAny (model c.prog c.w) A (pyNext (.ref I)) Q E s
 self:∀(A:Em) (i:Nat) (s:DA) (L:ao) (Q:DF->DA->Prop) (E:DF->DA->Prop),St i L s.heap->Q (.ref I) s->wpAny (model c.prog c.w) A (pyIter (.ref I)) Q E s
 pt:∀(i:Nat) (L:ao) (h:EI),St i L h->∀b o,B b->h.get? b=some o->o.cls≠.type "tuple"
 ptm:∀(i:Nat) (v:DF) (L:ao) (h:EI),Mid i v L h->∀b o,B b->h.get? b=some o->o.cls≠.type "tuple"
theorem VM.step{s s':DA}{L:ao}{B:Ep->Prop}(hk:∀b o,¬B b->s.heap.get? b=some o->s'.heap.get? b=some o)(hB:∀b o,B b->s.heap.get? b=some o->o.cls≠.type "tuple"):VM s s' L L where
 tup:=λa items n ha ho=>⟨hk a _ (λhb=>hB a _ hb ha rfl) ha,ho⟩
 ref:=λp hp=>⟨rfl,hp⟩
theorem sG{M:HK}{A:Em}{E:DF->DA->Prop}{s:DA}{x:String}{px:Pos}{it v:DF}{Q:Unit->DA->Prop}(h:Q () s):wpAny M A (letOwnedTupleGo (Tg.name x px).py it v) Q E s:=DE h
theorem i0{prog:Fc}{w:Fs}{A:Em}{E:DF->DA->Prop}{s:DA}{t:Tg}{I:Ep}{v:DF}{o:Obj}{n:String}{Q:Unit->DA->Prop}(ho:s.heap.get? I=some o)(hc:o.cls=.type n)
 (hn:["enumerate","zip","dict_itemiterator","dict_reverseitemiterator","odict_iterator","itertools.zip_longest","itertools.pairwise"].contains n=false) (h:Q () s):wpAny (model prog w) A (letOwnedTupleGo t.py (.ref I) v) Q E s:=by
 cases t with
 | name x px=>exact sG h
 | pair x px y py k p=>
  show wpAny (model prog w) A (letOwnedTupleGo (.Tuple _ k p) (.ref I) v) Q E s;cases v with
  | ref a=>
   refine Dz (KF ho ?_);rw [hc];generalize o.data=d;cases d with
   | fields vs=>dsimp only;rw [hn];exact DE h
   | _=>exact DE h
  | _=>exact DE h
theorem cE{h:EI}{I:Ep}{o:Obj}{n:String}(ho:h.get? I=some o)(hc:o.cls=.type n)(hn:n≠"tuple")(b:Ep)(o':Obj)(e:b=I)(ho':h.get? b=some o'):o'.cls≠.type "tuple":=λq=>
 hn (Ia ((DN (ho.symm.trans (e▸ho'))▸hc).symm.trans q))
section
variable {c:Cx} {A:Em} {Er:DF->DA->Prop} {s:DA} {σ:aa} {L:ao}
theorem dU.list(t:Tg)(I:Ep)(p:al)(l:List PV):dU c t I (λb=>b=I) (λσ=>σ p=some (.list l)) l (λi L h=>h.IsListIter I (L.ad p) i/\L.own (L.ad p)=some p) (λi _ L h=>h.IsListIter I (L.ad p) (i+1)/\L.own (L.ad p)=some p) where
 keep:=λi L L' s s' h V hk=>by
  rw [(V.ref p h.2).1];exact ⟨h.1.imp λo q=>⟨hk _ o rfl q.1,q.2⟩,(V.ref p h.2).2⟩
 item:=λA i s σ L x Q E hh W hI hc h hx hQ=>by
  refine aZ (bN W hc) λitems hl hr hz=>aN (hr.get i x hx) λv hv hxv=>?_;refine aI (Ib h.1 hl (eU hv).1 λh' hit hs hsz=>?_);have hk:∀b o,¬b=I->s.heap.get? b=some o->h'.get? b=some o:=λb o hb e=>(hs.2 b hb).trans e;have V:VM s {s with heap:=h'} L L:=VM.step hk (h.1.elim λo q=>cE q.1 q.2.1 (by decide));exact hQ v h' s.toks (hxv.mono V) ⟨hit,h.2⟩ hk hsz
 go:=λA i v s L Q E h hQ=>h.1.elim λo q=>i0 q.1 q.2.1 (by decide) (hQ s.heap h (λ_ _ _ e=>e) (DQ _))
 done:=λA s σ L Q E hh W hI hc h hQ=>aZ (bN W hc) λitems hl hr hz=>
  aI (Im hh h.1 hl (FT.mpr (Ee hz)) λh' hs hsz=>hQ h' s.toks (λb o hb e=>hs b o hb e) hsz)
 self:=λA i s L Q E h hQ=>wpAny_pyIter_listiter h.1 hQ
 pt:=λi L h x=>x.1.elim λo q=>cE q.1 q.2.1 (by decide)
 ptm:=λi v L h x=>x.1.elim λo q=>cE q.1 q.2.1 (by decide)
inductive i2(I a:Ep)(l:List PV)(i:Nat)(L:ao)(h:EI):Prop
 | mk:h.IsTupleIter I a i->∀items n,h.get? a=some ⟨.type "tuple",none,.seq items n,#[]⟩->L.own a=none->ag L h l items.toList->i2 I a l i L h
theorem i2.it{I a:Ep}{l:List PV}{i:Nat}{L:ao}{h:EI}(x:i2 I a l i L h):h.IsTupleIter I a i:=x.casesOn λh _ _ _ _ _=>h
theorem i2.pt{I a:Ep}{l:List PV}{i:Nat}{L:ao}{h:EI}(x:i2 I a l i L h)(b:Ep)(o:Obj)(hb:b=I)(ho:h.get? b=some o):o.cls≠.type "tuple":=
 x.it.elim λo' q=>cE q.1 q.2.1 (by decide) b o hb ho
theorem dU.tuple(t:Tg)(I a:Ep)(l:List PV):dU c t I (λb=>b=I) (λ_=>True) l (i2 I a l) (λi _=>i2 I a l (i+1)) where
 keep:=λi L L' s s' h V hk=>h.casesOn λh1 items n h2 h3 h4=>⟨h1.imp λo q=>⟨hk _ o rfl q.1,q.2⟩,items,n,(V.tup a items n h2 h3).1,(V.tup a items n h2 h3).2,h4.mono V⟩
 item:=λA i s σ L x Q E hh W hI hc hst hx hQ=>hst.casesOn λh1 items n h2 h3 h4=>aN (h4.get i x hx) λv hv hxv=>by
  have hne:¬a=I:=λe=>hst.pt a _ e h2 rfl;refine aI (wpAny_pyNext_tuple_item h1 ⟨_,h2,rfl,n,rfl⟩ (eU hv).1 λh' hit hs hsz=>?_);have hk:∀b o,¬b=I->s.heap.get? b=some o->h'.get? b=some o:=λb o hb e=>(hs.2 b hb).trans e;have V:VM s {s with heap:=h'} L L:=VM.step hk hst.pt;exact hQ v h' s.toks (hxv.mono V) ⟨hit,items,n,hk _ _ hne h2,h3,h4.mono V⟩ hk hsz
 go:=λA i v s L Q E hst hQ=>hst.it.elim λo q=>i0 q.1 q.2.1 (by decide) (hQ s.heap hst (λ_ _ _ e=>e) (DQ _))
 done:=λA s σ L Q E hh W hI hc h hQ=>h.casesOn λh1 items n h2 h3 h4=>
  aI (wpAny_pyNext_tuple_end hh h1 ⟨_,h2,rfl,n,rfl⟩ (FT.mpr (Ee (DT▸h4.length))) λh' hs hsz=>hQ h' s.toks (λb o hb e=>hs b o hb e) hsz)
 self:=λA i s L Q E h hQ=>wpAny_pyIter_tupleiter h.it hQ
 pt:=λi L h x=>x.pt
 ptm:=λi v L h x=>x.pt
theorem dU.range(t:Tg)(I:Ep)(n:Nat):dU c t I (λb=>b=I) (λ_=>True) ((DV n).map λ(i:Nat)=>.int i) (λi L h=>MQ h I (i:Int) ((n:Int) - i) 1) (λi _ L h=>MQ h I ((i+1:Nat):Int) ((n:Int) - ((i+1:Nat):Int)) 1) where
 keep:=λi L L' s s' h1 V hk=>hk _ _ rfl h1
 item:=λA i s σ L x Q E hh W hI hc h1 hx hQ=>by
  rw [Ef] at hx;refine (Ew.mp hx).elim λj q=>?_;have hj:=DR.mp q.1;have hi:i < n:=Ez (n:=n)▸hj.1;have ei:i=j:=(I7 hj.1).symm.trans hj.2;rw [← q.2,← ei] at hQ;refine aI (wpAny_pyNext_range_item h1 (Int.sub_pos_of_lt (EG.mpr hi)) λh' hit hs hsz=>?_);refine hQ _ h' _ vI ?_ (λb o hb e=>(hs.2 b hb).trans e) hsz;rw [show ((n:Int) - ((i+1:Nat):Int))=(n:Int) - i - 1 by rw [LJ,Int.sub_sub];rfl];exact hit
 go:=λA i v s L Q E h1 hQ=>i0 h1 rfl (by decide) (hQ s.heap h1 (λ_ _ _ e=>e) (DQ _))
 done:=λA s σ L Q E hh W hI hc h1 hQ=>by
  refine aI (wpAny_pyNext_range_end hh h1 ?_ λh' hs hsz=>hQ h' s.toks (λb o hb e=>hs b o hb e) hsz);simp
 self:=λA i s L Q E h1 hQ=>wpAny_pyIter_rangeiter h1 hQ
 pt:=λi L h h1=>cE h1 rfl (by decide)
 ptm:=λi v L h h1=>cE h1 rfl (by decide)
inductive uj(e it:Ep)(p:al)(i:Nat)(L:ao)(h:EI):Prop
 | mk (old):IsEnum h e it i old->h.IsListIter it (L.ad p) i->L.own (L.ad p)=some p->uj e it p i L h
inductive pH(e it:Ep)(p:al)(i:Nat)(L:ao)(h:EI):DF->Prop
 | mk (a x):IsEnumOut h e it ((i:Int)+1) x a->h.IsListIter it (L.ad p) (i+1)->L.own (L.ad p)=some p->pH e it p i L h (.ref a)
theorem uj.pt{e it:Ep}{p:al}{i:Nat}{L:ao}{h:EI}(x:uj e it p i L h)(b:Ep)(o:Obj)(hb:b=e\/b=it)(ho:h.get? b=some o):o.cls≠.type "tuple":=
 x.casesOn λ_ h0 h1 _=>hb.elim (λq=>cE h0 rfl (by decide) b o q ho) λq=>h1.elim λ_ r=>cE r.1 r.2.1 (by decide) b o q ho
theorem pH.pt{e it:Ep}{p:al}{i:Nat}{L:ao}{h:EI}{v:DF}(x:pH e it p i L h v)(b:Ep)(o:Obj)(hb:b=e\/b=it)(ho:h.get? b=some o):o.cls≠.type "tuple":=
 x.casesOn λ_ _ h0 h1 _=>hb.elim (λq=>cE h0 rfl (by decide) b o q ho) λq=>h1.elim λ_ r=>cE r.1 r.2.1 (by decide) b o q ho
theorem dU.enum(x:String)(px:Pos)(y:String)(py:Pos)(k:Nat)(pp:Pos)(e it:Ep)(hne:e≠it)(p:al)(l:List PV) :
 dU c (.pair x px y py k pp) e (λb=>b=e\/b=it) (λσ=>σ p=some (.list l)) (l.zipIdx.map λx=>.tup [.int x.2,x.1]) (uj e it p) (λi v L h=>pH e it p i L h v) where
 keep:=λi L L' s s' h V hk=>h.casesOn λold h0 h1 h2=>⟨old,hk _ _ (.inl rfl) h0,(V.ref p h2).1▸h1.imp λo q=>⟨hk _ o (.inr rfl) q.1,q.2⟩,(V.ref p h2).1▸(V.ref p h2).2⟩
 item:=λA i s σ L z Q E hh W hI hc hst hx hQ=>hst.casesOn λold h0 h1 h2=>aZ (bN W hc) λitems hl hr hz=>by
  rw [Ef,List.getElem?_zipIdx,Option.map_map] at hx;refine (Ew.mp hx).elim λu q=>?_;rw [← q.2] at hQ;refine aN (hr.get i u q.1) λv hv hxv=>?_;refine wpAny_pyNext_enum_item h0 h1 hl (eU hv).1 hne λh' ho hit ht hsz hk=>?_;have hk':∀b o,¬(b=e\/b=it)->s.heap.get? b=some o->h'.get? b=some o:=λb o hb e'=>hk b o (λq=>hb (.inl q)) (λq=>hb (.inr q)) e';have V:VM s {s with heap:=h',toks:=s.toks+1} L L:=VM.step hk' hst.pt;refine hQ _ h' _ ?_ ⟨_,_,ho,hit,h2⟩ hk' (by lia);exact ⟨_,_,0,rfl,ht,W.fresh _ (DQ _),ag.cons ⟨s.toks,by rw [FK]⟩ (ag.cons (hxv.mono V) ag.nil)⟩
 go:=λA i v s L Q E hm=>hm.casesOn (motive:=λv _=>_->wpAny _ A (letOwnedTupleGo _ _ v) Q E s) λa z h0 h1 h2 hQ=>by
  refine aI (wpAny_letOwnedTupleGo_enum h0 λh' he hs hsz=>?_);have hk:∀b o,b≠e->s.heap.get? b=some o->h'.get? b=some o:=λb o hb e'=>(hs.2 b hb).trans e';exact hQ h' ⟨z,he,h1.imp λo q=>⟨hk _ o (λq=>hne q.symm) q.1,q.2⟩,h2⟩ (λb o hb e'=>hk b o (λq=>hb (.inl q)) e') hsz
 done:=λA s σ L Q E hh W hI hc hst hQ=>hst.casesOn λold h0 h1 h2=>aZ (bN W hc) λitems hl hr hz=>by
  refine aI (wpAny_pyNext_enum_end hh h0 h1 hl ?_ λh' hs hsz=>hQ h' s.toks (λb o hb e=>hs b o (λq=>hb (.inr q)) e) hsz);rw [FT,DD,HD];exact Ee hz
 self:=λA i s L Q E h hQ=>h.casesOn λold h0 _ _=>K8 h0 hQ
 pt:=λi L h x=>x.pt
 ptm:=λi v L h x=>x.pt
theorem dM(x:Ek):strIterType x = "str_ascii_iterator"\/strIterType x = "str_iterator":=by
 unfold strIterType;split
 · exact .inl rfl
 · exact .inr rfl
theorem sH(I:Ep)(x:Ek)(u:Tok)(hh:A.handled=none):M3 c.prog c.w A I [I] [I] x.cps.size (SignAt x) (λi h=>h.IsStrIter I (strIterType x) x u i):=by
 rcases dM x with e | e
 · rw [e];exact Walks.strAscii hh I x u
 · rw [e];exact Walks.strWide hh I x u
theorem ql{I:Ep}{x:Ek}{u:Tok}{i:Nat}{h:EI}(hs:h.IsStrIter I (strIterType x) x u i)(b:Ep)(o:Obj)(hb:b=I)(ho:h.get? b=some o):o.cls≠.type "tuple":=
 hs.elim λ_ q=>cE q.1 q.2.1 ((dM x).elim (λe=>e▸(by decide)) λe=>e▸(by decide)) b o hb ho
theorem dU.str(t:Tg)(I:Ep)(x:Ek)(u:Tok) :
 dU c t I (λb=>b=I) (λ_=>True) (x.cps.toList.map λk=>.str ⟨#[k]⟩) (λi _ h=>h.IsStrIter I (strIterType x) x u i) (λi _ _ h=>h.IsStrIter I (strIterType x) x u (i+1)) where
 keep:=λi L L' s s' h V hk=>h.imp λo q=>⟨hk _ o rfl q.1,q.2⟩
 item:=λA i s σ L z Q E hh W hI hc h1 hx hQ=>by
  rw [Ef] at hx;refine (Ew.mp hx).elim λk q=>?_;rw [← q.2] at hQ;refine aI ((sH I x u hh).item i s _ E (eU q.1).2 h1 λv h' tk hv hst hk hsz=>?_);refine bf hv λk' u' hk1 e903=>?_;rw [e903,← DN ((eU q.1).1.symm.trans hk1)];exact hQ _ h' tk vS hst (λb o hb e=>hk b o (λq=>hb (DS.mp q)) e) hsz
 go:=λA i v s L Q E h1 hQ=>h1.elim λo q=>i0 q.1 q.2.1 ((dM x).elim (λe=>e▸(by decide)) λe=>e▸(by decide)) (hQ s.heap h1 (λ_ _ _ e=>e) (DQ _))
 done:=λA s σ L Q E hh W hI hc h1 hQ=>
  aI ((sH I x u hh).done s _ E (by rwa [DD,DT] at h1) λh' tk hk hsz=>hQ h' tk (λb o hb e=>hk b o (λq=>hb (DS.mp q)) e) hsz)
 self:=λA i s L Q E h1 hQ=>by
  rcases dM x with e | e
  · rw [e] at h1;exact wpAny_pyIter_striter_ascii h1 hQ
  · rw [e] at h1;exact wpAny_pyIter_striter_wide h1 hQ
 pt:=λi L h h1=>ql h1
 ptm:=λi v L h h1=>ql h1
end
theorem VM.step'{s s':DA}{L:ao}{B:Ep->Prop}(hk:∀b o,¬B b->s.heap.get? b=some o->s'.heap.get? b=some o)(hB:∀b items n,B b->s.heap.get? b≠some ⟨.type "tuple",FL,.seq items n,#[]⟩):VM s s' L L where
 tup:=λa items n ha ho=>⟨hk a _ (λhb=>hB a items n hb ha) ha,ho⟩
 ref:=λp hp=>⟨rfl,hp⟩
theorem VM.refl(s:DA)(L:ao):VM s s L L:=⟨λ_ _ _ h o=>⟨h,o⟩,λ_ h=>⟨rfl,h⟩⟩
theorem VM.trans{s s₁ s₂:DA}{L L1 L2:ao}(a:VM s s₁ L L1)(b:VM s₁ s₂ L1 L2):VM s s₂ L L2 where
 tup:=λx items n h o=>b.tup x items n (a.tup x items n h o).1 (a.tup x items n h o).2
 ref:=λp h=>by
  have h1:=a.ref p h;have h2:=b.ref p (by rw [h1.1];exact h1.2);rw [h1.1] at h2;exact h2
section
variable {c:Cx} {A:Em} {Er:DF->DA->Prop} {s:DA} {σ:aa} {L:ao} {env:Env} {sc:az} {ρ:af}
theorem Wd.step{s':DA}{B:Ep->Prop}(W:Wd c s σ L)(hk:∀b o,¬B b->s.heap.get? b=some o->s'.heap.get? b=some o)(hown:∀b,B b->L.own b=none)(hold:∀b,B b->c.h₀.get? b=none)
 (hB:∀b items n,B b->s.heap.get? b≠some ⟨.type "tuple",FL,.seq items n,#[]⟩) (hz:s.heap.objs.size<=s'.heap.objs.size) (hg:s'.gens=s.gens) (ho:s'.os=s.os) :
 Wd c s' σ L/\Ex B s s' L L/\VM s s' L L:=by
 have V:VM s s' L L:=VM.step' hk hB;exact ⟨⟨λb o e=>hk b o (λhb=>nomatch (hold b hb).symm.trans e) (W.keep b o e),DM W.size0 hz,hg.trans W.gens,ho.trans W.os,W.old,λb hb=>W.fresh b (DM hz hb),W.live,
  λp o hp=>eS.mono V (W.own hp) (λb ob hb e=>⟨hk b ob (λq=>nomatch (hown b q).symm.trans hb) e,hb⟩) (W.objs p o hp),W.fin⟩,
  ⟨hz,λ_ _=>rfl,λb o hX _ e=>hk b o hX e,λp hp=>⟨rfl,W.adlt hp⟩⟩,V⟩
theorem ax.mono'{s':DA}{L':ao}(F:ax c env sc s L ρ)(V:VM s s' L L')(own:∀b,b < s.heap.objs.size->L'.own b=L.own b)(hl:∀o,s.heap.get? env.locals=some o->s'.heap.get? env.locals=some o)
 (hc:∀x a,env.cells.lookup x=some a->∀o,s.heap.get? a=some o->s'.heap.get? a=some o):ax c env sc s' L' ρ where
 kind:=F.kind
 names:=F.names
 glob:=F.glob
 bi:=F.bi
 loc:=F.loc.imp λm h=>⟨iW h.1 λo es ep ho r=>⟨o,es,ep,hl _ ho,r⟩,λx v hx hl=>(h.2 x v hx hl).imp λpv q=>⟨q.1,q.2.mono V⟩⟩
 cel:=λx v hx hl=>(F.cel x v hx hl).imp_right λh=>h.casesOn λa pv h1 h2 h3=>⟨a,pv,h1,IsCell.keep h2 (hc _ a h1),h3.mono V⟩
 cells:=λx hx=>(F.cells x hx).imp λa h=>h.imp λv h=>⟨h.1,IsCell.keep h.2 (hc _ a h.1)⟩
 locown:=F.loc.elim λm h=>(own _ h.1.lt).trans F.locown
 locold:=F.locold
 cellown:=λx a h=>(F.cellown x a h).casesOn λh1 h2 v h3=>⟨(own _ (h3.elim λ_ q=>Ec q.1)).trans h1,h2,v,IsCell.keep h3 (hc x a h)⟩
 cellinj:=F.cellinj
noncomputable def cF(env:Env)(b:Ep):Prop:=b=env.locals\/∃x,env.cells.lookup x=some b
structure Dh(c:Cx)(s:DA)(L:ao)(b:Ep):Prop where
 own:L.own b=none
 old:c.h₀.get? b=none
 lt:b < s.heap.objs.size
 tup:∀items n,s.heap.get? b≠some ⟨.type "tuple",none,.seq items n,#[]⟩
theorem ax.fra(F:ax c env sc s L ρ)(b:Ep)(hb:cF env b):Dh c s L b:=by
 rcases hb with hb | ⟨x,hx⟩
 · rw [hb];exact F.loc.elim λm h=>tP h.1 λo es ep ho hd _=>⟨F.locown,F.locold,h.1.lt,λitems n e=>nomatch (congrArg L9 (DN (ho.symm.trans e))).symm.trans hd⟩
 · exact (F.cellown x b hx).casesOn λh1 h2 v h3=>h3.elim λo h=>⟨h1,h2,Ec h.1,λitems n e=>nomatch (congrArg L9 (DN (h.1.symm.trans e))).symm.trans h.2⟩
theorem ax.apart(F:ax c env sc s L ρ){x:Ek}{a:Ep}(h:env.cells.lookup x=some a):a≠env.locals:=λe=>
 (F.cellown x a h).casesOn λ_ _ v h3=>h3.elim λo q=>F.loc.elim λm r=>tP r.1 λo' es ep ho' hd' _=>
  nomatch q.2.symm.trans ((congrArg L9 (DN ((e▸q.1).symm.trans ho'))).trans hd')
noncomputable def fc(env:Env)(sc:az)(x:String)(b:Ep):Prop:=(sc.lookup x=some .local/\b=env.locals)\/env.cells.lookup (Dy x)=some b/\sc.lookup x=some .cell
theorem fc.fra{x:String}{b:Ep}(h:fc env sc x b):cF env b:=h.imp IY λh=>⟨_,h.1⟩
theorem fj(W:Wd c s σ L)(F:ax c env sc s L ρ){x:String}{v:DF}{V:PV}{Q:Unit->DA->Prop}(hx:sc.lookup x=some .local\/sc.lookup x=some .cell)(hv:ak L s.heap V v)
 (hQ:∀s',Wd c s' σ L->Ex (fc env sc x) s s' L L->VM s s' L L->ax c env sc s' L (ρ.put x V)->(∀b o,¬fc env sc x b->s.heap.get? b=some o->s'.heap.get? b=some o)->Q () s') :
 wpAny (model c.prog c.w) A (storeName env (Dy x) v) Q Er s:=by
 have hp:(env.scope.kind == .class || (env.scope.kind == .module && env.locals != env.globals))=false:=by rw [F.kind];rfl
 have step:∀s':DA,(∀b o,¬fc env sc x b->s.heap.get? b=some o->s'.heap.get? b=some o)->s.heap.objs.size<=s'.heap.objs.size->s'.gens=s.gens->s'.os=s.os->
  Wd c s' σ L/\Ex (fc env sc x) s s' L L/\VM s s' L L:=λs' hk hz hg ho=>
  W.step hk (λb hb=>(F.fra b hb.fra).own) (λb hb=>(F.fra b hb.fra).old) (λb items n hb=>(F.fra b hb.fra).tup items n) hz hg ho
 rcases hx with hx | hx
 · refine F.loc.elim λm hm=>?_;refine wpAny_storeName_local ((F.kindOf x).trans hx) hm.1 (λh' hn' hs=>?_) hp;have hk:∀b o,¬fc env sc x b->s.heap.get? b=some o->h'.get? b=some o:=λb o hb e=>(hs.2 b λq=>hb (.inl ⟨hx,q⟩)).trans e;refine cj (step {s with heap:=h',toks:=s.toks+1} hk (Ee hs.1.symm) rfl rfl) λW' X' VV=>hQ _ W' X' VV ?_ hk;have hcell:∀y a,env.cells.lookup y=some a->∀o,s.heap.get? a=some o->h'.get? a=some o:=λy a h o e=>(hs.2 a (F.apart h)).trans e;refine ⟨F.kind,F.names,F.glob,F.bi,⟨_,hn',λy u hy hl=>?_⟩,λy u hy hl=>?_,λy hy=>(F.cells y hy).imp λa h=>h.imp λv h=>⟨h.1,IsCell.keep h.2 (hcell _ a h.1)⟩,F.locown,F.locold,
    λy a h=>(F.cellown y a h).casesOn λh1 h2 u h3=>⟨h1,h2,u,IsCell.keep h3 (hcell y a h)⟩,F.cellinj⟩
   · by_cases e:y=x
     · exact ⟨v,if_pos (congrArg _ e),DN ((if_pos e).symm.trans hy)▸hv.mono VV⟩
     · exact (hm.2 y u ((if_neg e).symm.trans hy) hl).imp λpv q=>⟨(if_neg λq=>e (Str.ofString_inj.mp q)).trans q.1,q.2.mono VV⟩
   · have e:y≠x:=λe=>hl (e▸hx);exact (F.cel y u ((if_neg e).symm.trans hy) hl).imp_right λh=>h.casesOn λa pv h1 h2 h3=>⟨a,pv,h1,IsCell.keep h2 (hcell _ a h1),h3.mono VV⟩
 · refine bf (F.cells x hx) λa v₀ ha hc=>?_;refine wpAny_storeName_cell F.kind ((F.kindOf x).trans hx) ha hc λh' hc' hs=>?_;have hk:∀b o,¬fc env sc x b->s.heap.get? b=some o->h'.get? b=some o:=λb o hb e=>(hs.2 b λq=>hb (.inr ⟨q▸ha,hx⟩)).trans e;refine cj (step {s with heap:=h'} hk (Ee hs.1.symm) rfl rfl) λW' X' VV=>hQ _ W' X' VV ?_ hk;have hcell:∀y b,env.cells.lookup y=some b->y≠Dy x->∀o,s.heap.get? b=some o->h'.get? b=some o:=λy b h hne o e=>
    (hs.2 b λq=>hne (F.cellinj _ _ b h (q▸ha))).trans e
   refine ⟨F.kind,F.names,F.glob,F.bi,F.loc.imp λm hm=>⟨hm.1.sameBut hs λe=>F.apart ha e.symm,λy u hy hl=>?_⟩,λy u hy hl=>?_,λy hy=>?_,F.locown,F.locold,λy b h=>?_,F.cellinj⟩
   · have e:y≠x:=λe=>nomatch (e▸hl:sc.lookup x=some .local).symm.trans hx;exact (hm.2 y u ((if_neg e).symm.trans hy) hl).imp λpv q=>⟨q.1,q.2.mono VV⟩
   · by_cases e:y=x
     · rw [e];exact ⟨.inl hx,a,v,ha,hc',DN ((if_pos e).symm.trans hy)▸hv.mono VV⟩
     · exact (F.cel y u ((if_neg e).symm.trans hy) hl).imp_right λh=>h.casesOn λb pv h1 h2 h3=>⟨b,pv,h1,IsCell.keep h2 (hcell _ b h1 λq=>e (Str.ofString_inj.mp q)),h3.mono VV⟩
   · by_cases e:y=x
     · exact ⟨a,some v,e▸ha,hc'⟩
     · exact (F.cells y hy).imp λb h=>h.imp λu h=>⟨h.1,IsCell.keep h.2 (hcell _ b h.1 λq=>e (Str.ofString_inj.mp q))⟩
   · by_cases e:y=Dy x
     · rw [e] at h;rw [DN (h.symm.trans ha)];exact ⟨(F.cellown _ a ha).own,(F.cellown _ a ha).old,_,hc'⟩
     · exact (F.cellown y b h).casesOn λh1 h2 u h3=>⟨h1,h2,u,IsCell.keep h3 (hcell y b h e)⟩
end
noncomputable def bU(sc:az)(x:String):Bool:=sc.lookup x == some .local || sc.lookup x == some .cell
theorem cK{sc:az}{x:String}(h:bU sc x=true):sc.lookup x=some .local\/sc.lookup x=some .cell:=by
 exact ((Hw ..).mp h).imp beq_iff_eq.mp beq_iff_eq.mp
noncomputable def Tg.ok(sc:az):Tg->Bool
 | .name x _=>bU sc x
 | .pair x _ y _ _ _=>bU sc x && bU sc y
section
variable {c:Cx} {A:Em} {Er:DF->DA->Prop} {s:DA} {σ:aa} {L:ao} {env:Env} {sc:az} {ρ:af}
structure ej(c:Cx)(Y:Ep->Prop)(s s':DA)(L:ao):Prop where
 ex:Ex Y s s' L L
 vm:VM s s' L L
 keep:∀b o,¬Y b->s.heap.get? b=some o->s'.heap.get? b=some o
theorem Ex.wider{X Y:Ep->Prop}{s s':DA}{L L':ao}(a:Ex X s s' L L')(h:∀b,X b->Y b):Ex Y s s' L L':=⟨a.size,a.own,λb o hb ho e=>a.keep b o (λq=>hb (h b q)) ho e,a.ad⟩
theorem ej.wider{X Y:Ep->Prop}{s s':DA}(a:ej c X s s' L)(h:∀b,X b->Y b):ej c Y s s' L:=⟨a.ex.wider h,a.vm,λb o hb e=>a.keep b o (λq=>hb (h b q)) e⟩
theorem ej.trans{Y:Ep->Prop}{s₁ s':DA}(a:ej c Y s s₁ L)(b:ej c Y s₁ s' L):ej c Y s s' L:=⟨a.ex.trans b.ex,a.vm.trans b.vm,λx o h e=>b.keep x o h (a.keep x o h e)⟩
noncomputable def gg(env:Env)(sc:az):Tg->Ep->Prop
 | .name x _,b=>fc env sc x b
 | .pair x _ y _ _ _,b=>fc env sc x b\/fc env sc y b
theorem gg.fra{t:Tg}{b:Ep}(h:gg env sc t b):cF env b:=by
 cases t with
 | name x _=>exact fc.fra h
 | pair x _ y _ _ _=>rcases h with h | h <;> exact fc.fra h
theorem kG{M:HK}{f g:DF->Sem Unit}{u v:DF}{Q:Unit->DA->Prop}(h:wpAny M A (f u) (λ_ s₁=>wpAny M A (g v) Q Er s₁) Er s):wpAny M A (assignInOrder [f,g] [u,v]) Q Er s:=by
 refine Dz (D2 (DU h (λ_ s₁ h₁=>?_) λ_ _ e=>e));refine Dz (D2 (DU h₁ (λ_ s₂ h₂=>?_) λ_ _ e=>e));exact DE h₂
theorem fk(hh:A.handled=none)(W:Wd c s σ L){v:DF}{V:PV}{l:List PV}{Q:List DF->DA->Prop}(hv:ak L s.heap V v)(hs:pG σ V=some l)
 (hQ:∀vs s',Wd c s' σ L->Ex bZ s s' L L->(∀b o,s.heap.get? b=some o->s'.heap.get? b=some o)->ag L s'.heap l vs->Q vs s'):wpAny (model c.prog c.w) A (unpackItems v l.length none) Q Er s:=by
 have fin:∀(vs:List DF) (h':EI),ag L s.heap l vs->Jp s.heap.objs.size s.heap h'->s.heap.objs.size<=h'.objs.size->Q vs {s with heap:=h'}:=λvs h' hr hx hz=>by
  have hk:∀b o,s.heap.get? b=some o->h'.get? b=some o:=λb o e=>hx b o (D1 (Ec e)) e;have R:=W.grow (s':={s with heap:=h'}) hz hk rfl rfl;exact hQ vs _ R.1 R.2 hk (hr.mono R.2.vm0)
 revert hv;cases V with
 | tup l'=>
  rw [DN hs];refine λhv=>hv.tupE λa items n ha ho hl=>?_;rw [← hl.length,DT];exact aI (wpAny_unpackItems_tuple hh ⟨_,ha,rfl,n,rfl⟩ λh' hx hsz=>fin _ h' hl hx hsz)
 | ref p=>
  refine (FM.mp (hs:(σ p).bind lP=some l)).elim λo q=>?_;cases o with
  | list l'=>
   have hp:σ p=some (.list l):=q.1.trans (congrArg (some∘PO.list) (DN q.2));refine λhv=>hv.refE λ_=>aZ (bN W hp) λitems hl hr hz=>?_;rw [← hz];exact aI (kun_itemsOf hh hl λh' hx hsz=>fin _ h' hr hx hsz)
  | _=>exact (Eh _ q.2.symm).elim
 | _=>exact (Eh _ hs.symm).elim
theorem sI(hh:A.handled=none)(W:Wd c s σ L)(F:ax c env sc s L ρ){t:Tg}{v:DF}{V:PV}{ρ':af}{Q:Unit->DA->Prop}(ht:t.ok sc=true)(hv:ak L s.heap V v)(hb:t.bind V ρ=some ρ')
 (hQ:∀s',Wd c s' σ L->ej c (gg env sc t) s s' L->ax c env sc s' L ρ'->Q () s'):wpAny (model c.prog c.w) A (assign t.py env v) Q Er s:=by
 cases t with
 | name x px=>
  rw [← DN hb] at hQ;exact G7 (fj W F (cK ht) hv λs' W' X' V' F' hk=>hQ s' W' ⟨X',V',hk⟩ F')
 | pair x px y py k p=>
  have h12:=DP.mp ht;refine (Ew.mp hb).elim λq hq=>?_;rw [nZ hq.1] at hv;rw [← hq.2] at hQ;show wpAny _ _ (assign (.Tuple [.Name (Dy x) px,.Name (Dy y) py] k p) env v) Q Er s;rw [Lr];refine Dz (Fj ?_);show wpAny _ _ (unpack v [(false,assign (.Name (Dy x) px) env),(false,assign (.Name (Dy y) py) env)]) Q Er s;refine Dz (D2 (fk (l:=[q.1,q.2]) hh W hv rfl λvs s₁ W1 X1 hk₁ hr=>hr.consE λva r hva hr=>hr.oneE λvb hvb=>?_));have S₁:ej c (gg env sc (.pair x px y py k p)) s s₁ L:=⟨X1.weak,X1.vm0,λq o _ e=>hk₁ q o e⟩;exact kG (G7 (fj W1 (F.mono X1) (cK h12.1) hva λs₂ W₂ X2 V2 F2 k₂=>
   G7 (fj W₂ F2 (cK h12.2) (hvb.mono V2) λs₃ W3 X3 V3 F3 k₃=>hQ s₃ W3 (S₁.trans (ej.trans (ej.wider ⟨X2,V2,k₂⟩ λ_ q=>.inl q) (ej.wider ⟨X3,V3,k₃⟩ λ_ q=>.inr q))) F3)))
end
section
variable {prog:Fc} {w:Fs} {A:Em} {R:Iq->DA->Prop} {s:DA}
theorem jx{elt target iter:Expr}{ifs:List Expr}{scope:Scope}{pos:Pos}{it acc:DF}{env:Env}(I:Nat->DA->Prop)
 (turn:∀n s,I n s->wpAny (model prog w) A (pyNext it) (λr s₁=>match r with
  | none=>R (.ok .next) s₁
  | some v=>wpAny (model prog w) A (letOwnedTupleGo target it v) (λ_ s1'=>wpAny (model prog w) A (assign target env v) (λ_ s₂=>
   wpAny (model prog w) A (forIn ifs true λc r=>if r=true then do let ok ← isTrue c env (eval c env);pure (FV ok) else pure (FV r)) (λok s₃=>
    if ok=true then wpAny (model prog w) A (eval elt env) (λx s₄=>wpAny (model prog w) A (call (.builtin "list.append") [acc,x]) (λ_ s₅=>∃m,m < n/\I m s₅) (λ_ _=>False) s₄) (λ_ _=>False) s₃
    else ∃m,m < n/\I m s₃) (λ_ _=>False) s₂) (λ_ _=>False) s1') (λ_ _=>False) s₁) (λ_ _=>False) s)
 (n:Nat) (h:I n s):codeAny (model prog w) A (.compLoop (.ListComp elt [⟨target,iter,ifs,0⟩] scope pos) 0 it acc env) R s:=by
 refine Mw rfl I (λn s hI=>?_) n h;show wpAny _ A ((compTurn (.ListComp elt [⟨target,iter,ifs,0⟩] scope pos) 0 it acc env).onRaise (λx=>do noteFrame x env;theTreesLotGoes x)) _ _ s;refine MR ?_;rw [compTurn_list];refine Dz (Fj (Dz (DU (turn n s hI) (λr s₁ h₁=>?_) λ_ _ f=>f.elim)));cases r with
 | none=>exact DE h₁
 | some v=>
  refine Dz (DU h₁ (λ_ s1' h₁'=>?_) λ_ _ f=>f.elim);refine Dz (DU h₁' (λ_ s₂ h₂=>Dz (DU h₂ (λok s₃ h₃=>?_) λ_ _ f=>f.elim)) λ_ _ f=>f.elim);cases ok with
  | false=>exact DE ⟨rfl,h₃⟩
  | true=>
   exact Dz (Dz (DU h₃ (λx s₄ h₄=>Dz (DU h₄ (λ_ s₅ h₅=>DE (DE ⟨rfl,h₅⟩)) λ_ _ f=>f.elim)) λ_ _ f=>f.elim))
theorem pb{kx vx target iter:Expr}{scope:Scope}{pos:Pos}{it:DF}{D:Ep}{env:Env}(I:Nat->DA->Prop)
 (turn:∀n s,I n s->wpAny (model prog w) A (pyNext it) (λr s₁=>match r with
  | none=>R (.ok .next) s₁
  | some v=>wpAny (model prog w) A (letOwnedTupleGo target it v) (λ_ s1'=>wpAny (model prog w) A (assign target env v) (λ_ s₂=>
   wpAny (model prog w) A (eval kx env) (λkv s₄=>wpAny (model prog w) A (eval vx env) (λvv s₅=>wpAny (model prog w) A (dictSet D kv vv) (λ_ s₆=>∃m,m < n/\I m s₆) (λ_ _=>False) s₅) (λ_ _=>False) s₄) (λ_ _=>False) s₂)
   (λ_ _=>False) s1') (λ_ _=>False) s₁) (λ_ _=>False) s)
 (n:Nat) (h:I n s):codeAny (model prog w) A (.compLoop (.DictComp kx vx [⟨target,iter,[],0⟩] scope pos) 0 it (.ref D) env) R s:=by
 refine Mw rfl I (λn s hI=>?_) n h;show wpAny _ A ((compTurn (.DictComp kx vx [⟨target,iter,[],0⟩] scope pos) 0 it (.ref D) env).onRaise (λx=>do noteFrame x env;theTreesLotGoes x)) _ _ s;refine MR ?_;rw [compTurn_dict];refine Dz (Fj (Dz (DU (turn n s hI) (λr s₁ h₁=>?_) λ_ _ f=>f.elim)));cases r with
 | none=>exact DE h₁
 | some v=>
  refine Dz (DU h₁ (λ_ s1' h₁'=>?_) λ_ _ f=>f.elim);refine Dz (DU h₁' (λ_ s₂ h₂=>Dz (DU (JX (Q:=λok s₃=>ok=true/\s₃=s₂) ⟨rfl,rfl⟩) (λok s₃ h₃=>?_) λ_ _ h'=>h')) λ_ _ f=>f.elim);rw [h₃.1,h₃.2];exact Dz (Dz (DU h₂ (λkv s₄ h₄=>Dz (D2 (DU h₄ (λvv s₅ h₅=>Dz (Fj (D2 (DU h₅ (λ_ s₆ h₆=>DE ⟨rfl,h₆⟩) λ_ _ f=>f.elim)))) λ_ _ f=>f.elim))) λ_ _ f=>f.elim))
end
abbrev qm:DF->DA->Prop:=λ_ _=>False
section
variable {c:Cx} {A:Em} {s:DA} {σ:aa} {L:ao} {env:Env} {sc:az} {ρ ρ':af}
theorem jy{t:Tg}{I:Ep}{B:Ep->Prop}{chk:aa->Prop}{l:List PV}{St:Nat->ao->EI->Prop}{Mid:Nat->DF->ao->EI->Prop}{i:Nat}{x:PV}{Post:DA->Prop}{N:Option DF->DA->Prop}
 (hh:A.handled=none) (It:dU c t I B chk l St Mid) (W:Wd c s σ L) (F:ax c env sc s L ρ) (hB:∀b,B b->L.own b=none/\c.h₀.get? b=none/\¬cF env b) (hc:chk σ) (hst:St i L s.heap) (hx:l[i]? = some x)
 (ht:t.ok sc=true) (hb:t.bind x ρ=some ρ')
 (hN:∀v s₁,wpAny (model c.prog c.w) A (letOwnedTupleGo t.py (.ref I) v) (λ_ s1'=>wpAny (model c.prog c.w) A (assign t.py env v) (λ_ s₂=>Post s₂) qm s1') qm s₁->N (some v) s₁)
 (hP:∀s₂,Wd c s₂ σ L->Ex (λb=>B b\/gg env sc t b) s s₂ L L->VM s s₂ L L->(∀b o,¬(B b\/gg env sc t b)->s.heap.get? b=some o->s₂.heap.get? b=some o)->ax c env sc s₂ L ρ'->St (i+1) L s₂.heap->Post s₂) :
 wpAny (model c.prog c.w) A (pyNext (.ref I)) N qm s:=by
 refine It.item A i s σ L x _ _ hh W (λb hb=>(hB b hb).1) hc hst hx λv h' tk hv hmid hk hz=>hN _ _ ?_;have hpt:∀b items n,B b->s.heap.get? b≠some ⟨.type "tuple",none,.seq items n,#[]⟩:=λb items n hb e=>It.pt i L s.heap hst b _ hb e rfl;refine cj (W.step (s':={s with heap:=h',toks:=tk}) hk (λb hb=>(hB b hb).1) (λb hb=>(hB b hb).2.1) hpt hz rfl rfl) λW1 X1 V1=>?_;have F1:ax c env sc {s with heap:=h',toks:=tk} L ρ:=F.mono' V1 X1.own (λo e=>hk _ o (λhb=>(hB _ hb).2.2 (.inl rfl)) e) (λy a ha o e=>hk a o (λhb=>(hB _ hb).2.2 (.inr ⟨y,ha⟩)) e);refine It.go A i v _ L _ _ hmid λh₂ hst2 hk₂ hz₂=>?_;have hpt2:∀b items n,B b->h'.get? b≠some ⟨.type "tuple",none,.seq items n,#[]⟩:=λb items n hb e=>It.ptm i v L h' hmid b _ hb e rfl;refine cj (W1.step (s':={s with heap:=h₂,toks:=tk}) hk₂ (λb hb=>(hB b hb).1) (λb hb=>(hB b hb).2.1) hpt2 hz₂ rfl rfl) λW₂ X2 V2=>?_;have F2:ax c env sc {s with heap:=h₂,toks:=tk} L ρ:=F1.mono' V2 X2.own (λo e=>hk₂ _ o (λhb=>(hB _ hb).2.2 (.inl rfl)) e) (λy a ha o e=>hk₂ a o (λhb=>(hB _ hb).2.2 (.inr ⟨y,ha⟩)) e);refine sI hh W₂ F2 ht (hv.mono V2) hb λs₃ W3 S3 F3=>hP s₃ W3 ?_ ((V1.trans V2).trans S3.vm) (λb o hb e=>?_) F3 ?_
 · refine ⟨DM X1.size (DM X2.size S3.ex.size),λb hb=>rfl,λb o hX ho e=>?_,λp hp=>⟨rfl,W.adlt hp⟩⟩;exact S3.keep b o (λq=>hX (.inr q)) (hk₂ b o (λq=>hX (.inl q)) (hk b o (λq=>hX (.inl q)) e))
 · exact S3.keep b o (λq=>hb (.inr q)) (hk₂ b o (λq=>hb (.inl q)) (hk b o (λq=>hb (.inl q)) e))
 · exact It.keep (i+1) L L {s with heap:=h₂,toks:=tk} s₃ hst2 S3.vm λb o hb e=>S3.keep b o (λq=>(hB b hb).2.2 q.fra) e
end
noncomputable def Tg.okl(sc:az):Tg->Bool
 | .name x _=>sc.lookup x == some .local
 | .pair x _ y _ _ _=>sc.lookup x == some .local && sc.lookup y == some .local
theorem Tg.okl_ok{sc:az}{t:Tg}(h:t.okl sc=true):t.ok sc=true:=by
 cases t with
 | name x _=>
  have h:(sc.lookup x == some .local)=true:=h;show (sc.lookup x == some .local || sc.lookup x == some .cell)=true;rw [h];rfl
 | pair x _ y _ _ _=>
  have h:(sc.lookup x == some .local && sc.lookup y == some .local)=true:=h;obtain ⟨a,b⟩:=DP.mp h;show ((sc.lookup x == some .local || sc.lookup x == some .cell) && (sc.lookup y == some .local || sc.lookup y == some .cell))=true;rw [a,b];rfl
theorem fc.loc{env:Env}{sc:az}{x:String}{b:Ep}(h:(sc.lookup x == some .local)=true)(q:fc env sc x b):b=env.locals:=by
 have h:sc.lookup x=some .local:=beq_iff_eq.mp h;exact q.elim IY λq=>nomatch h.symm.trans q.2
theorem gg.loc{env:Env}{sc:az}{t:Tg}{b:Ep}(h:t.okl sc=true)(q:gg env sc t b):b=env.locals:=by
 cases t with
 | name x _=>exact fc.loc h q
 | pair x _ y _ _ _=>
  exact q.elim (fc.loc (DP.mp h).1) (fc.loc (DP.mp h).2)
noncomputable def SE(c:Cx)(sc:az)(e:E):Prop:=∀(A:Em) (s:DA) (σ:aa) (L:ao) (env:Env) (ρ:af) (Q:PV->aa->Prop) (k:Nat),bl k A->Wd c s σ L->ax c env sc s L ρ->a8 (aj c) k e ρ σ Q->
 wpAny (model c.prog c.w) A (eval e.py env) (aq c s L Q) aY s
noncomputable def ST(c:Cx)(sc:az)(t:T):Prop:=∀(A:Em) (s:DA) (σ:aa) (L:ao) (env:Env) (ρ:af) (Q:Bool->aa->Prop) (k:Nat),bl k A->Wd c s σ L->ax c env sc s L ρ->kK (aj c) k t ρ σ Q->
 wpAny (model c.prog c.w) A (isTrue t.py env (eval t.py env)) (aH c s L Q) aY s
noncomputable def oh(c:Cx)(sc:az)(ts:Ts):Prop:=∀(A:Em) (s:DA) (σ:aa) (L:ao) (env:Env) (ρ:af) (Q:Bool->aa->Prop) (k:Nat),bl k A->Wd c s σ L->ax c env sc s L ρ->iZ (aj c) k .And ts ρ σ Q->
 wpAny (model c.prog c.w) A (forIn ts.py true λc r=>if r=true then do let ok ← isTrue c env (eval c env);pure (FV ok) else pure (FV r)) (aH c s L Q) aY s
section
variable {c:Cx} {A:Em} {s:DA} {σ:aa} {L:ao} {env:Env} {sc:az} {ρ ρ':af}
theorem ax.weaken(F:ax c env sc s L ρ')(h:∀x v,ρ x=some v->ρ' x=some v):ax c env sc s L ρ where
 kind:=F.kind
 names:=F.names
 glob:=F.glob
 bi:=F.bi
 loc:=F.loc.imp λm q=>⟨q.1,λx v hx hl=>q.2 x v (h x v hx) hl⟩
 cel:=λx v hx hl=>F.cel x v (h x v hx) hl
 cells:=F.cells
 locown:=F.locown
 locold:=F.locold
 cellown:=F.cellown
 cellinj:=F.cellinj
theorem Wd.adopt(W:Wd c s σ L){p:al}(hp:σ p=none){a:Ep}{o:PO}(hown:L.own a=none)(hold:c.h₀.get? a=none)(ha:a < s.heap.objs.size)(hsz:c.h₀.objs.size<=a)
 (hnt:∀items n,s.heap.get? a≠some ⟨.type "tuple",none,.seq items n,#[]⟩) (hV:VM s s L (L.add p a)->eS c.w (L.add p a) s.heap p o) :
 Wd c s (σ.set p o) (L.add p a)/\VM s s L (L.add p a)/\ak (L.add p a) s.heap (.ref p) (.ref a):=by
 have hnp:¬L.own (L.ad p)=some p:=λe=>((W.live p).mpr e).elim λo' h'=>nomatch hp.symm.trans h';have ne:∀{b q},L.own b=some q->b≠a:=λ{b q} h (e:b=a)=>nomatch hown.symm.trans (e▸h:L.own a=some q);have V:VM s s L (L.add p a):=⟨λb items n hb ho=>⟨hb,(L.add_ne p λ(e:b=a)=>hnt items n (e▸hb)).trans ho⟩,
  λq hq=>⟨if_neg λ(e:q=p)=>hnp (e▸hq),(L.add_ne p (ne hq)).trans hq⟩⟩
 have hv:(L.add p a).own ((L.add p a).ad p)=some p:=by rw [L.add_ad];exact L.add_own p a
 refine ⟨⟨W.keep,W.size0,W.gens,W.os,λb ob hb=>?_,λb hb=>(L.add_ne p (EY (DI ha hb))).trans (W.fresh b hb),λq=>?_,λq oq hq=>?_,W.fin_set p o⟩,V,by rw [L.add_ad],hv⟩
 · rw [L.add_ne p λ(e:b=a)=>nomatch hold.symm.trans (e▸hb:c.h₀.get? a=some ob)];exact (W.old b ob hb).imp_right λh=>h.elim λq h=>h.elim λl h=>⟨q,l,h.1,(aa.set_ne σ o λ(e:q=p)=>nomatch hp.symm.trans (e▸h.2:σ p=some (.froz l))).trans h.2⟩
 · by_cases e:q=p
   · rw [e];exact ⟨λ_=>hv,λ_=>⟨o,aa.set_self _ _ _⟩⟩
   · rw [aa.set_ne σ o e,W.live q,show (L.add p a).ad q=L.ad q from if_neg e];by_cases e2:L.ad q=a
     · rw [e2,hown,L.add_own];exact ⟨nofun,λh=>absurd (DN h).symm e⟩
     · rw [L.add_ne p e2]
 · by_cases e:q=p
   · rw [e,aa.set_self] at hq;rw [e];exact DN hq▸hV V
   · rw [aa.set_ne σ o e] at hq;exact eS.mono V (W.own hq) (λb ob hb eb=>⟨eb,(L.add_ne p (ne hb)).trans hb⟩) (W.objs q oq hq)
inductive uk(c:Cx)(sB:DA)(LB:ao)(cenv:Env)(sc':az)(ρ0:af)(D:Ep)(Q':List PV->aa->Prop)(r:Iq)(s':DA):Prop
 | mk:r=.ok .next->∀acc σ L ep items,Wd c s' σ L->s'.heap.get? D=some ⟨.type "list",none,.seq items ep,#[]⟩->ag L s'.heap acc items.toList->ax c cenv sc' s' L ρ0->(Ex (λb=>sB.heap.objs.size<=b) sB s' LB L)->L.own D=none->Q' acc σ->uk c sB LB cenv sc' ρ0 D Q' r s'
inductive jz(c:Cx)(s:DA)(sB:DA)(LB:ao)(cenv:Env)(sc':az)(ρ0:af)(D:Ep)(Q':List PV->aa->Prop)(t:Tg)(B:Ep->Prop)(chk:aa->Prop)(l:List PV)(St:Nat->ao->EI->Prop)(elt:E)(ifs:Ts)(k:Nat)(n:Nat)(s':DA):Prop
 | mk:∀i acc σ L ep items,n+i=l.length->Wd c s' σ L->St i L s'.heap->s'.heap.get? D=some ⟨.type "list",none,.seq items ep,#[]⟩->ag L s'.heap acc items.toList->ax c cenv sc' s' L ρ0->(Ex (λb=>sB.heap.objs.size<=b) sB s' LB L)->(∀b,B b->L.own b=none)->s.heap.objs.size<=s'.heap.objs.size->L.own D=none->(cn chk (λv=>t.bind v ρ0) (λρ' σ' Q'=>iZ (aj c) k .And ifs ρ' σ' Q') (λρ' σ' Q'=>a8 (aj c) k elt ρ' σ' Q') (l.drop i) acc σ Q')->jz c s sB LB cenv sc' ρ0 D Q' t B chk l St elt ifs k n s'
theorem um{sB:DA}{LB:ao}{cenv:Env}{sc':az}{ρ0:af}{D:Ep}{Q':List PV->aa->Prop}{t:Tg}{I:Ep}{B:Ep->Prop}{chk:aa->Prop}{l:List PV}{St:Nat->ao->EI->Prop}{Mid:Nat->DF->ao->EI->Prop}
 {elt:E} {ifs:Ts} {iter:Expr} {scope:Scope} {pos:Pos} {k:Nat} {items0:Array DF} {ep0:Nat} {acc0:List PV}
 (hR:bl k A) (It:dU c t I B chk l St Mid) (helt:SE c sc' elt) (hifs:oh c sc' ifs) (ht:t.okl sc'=true) (hρ:∀v ρ',t.bind v ρ0=some ρ'->∀x u,ρ0 x=some u->ρ' x=some u)
 (hB:∀b,B b->c.h₀.get? b=none/\¬cF cenv b/\sB.heap.objs.size<=b/\b≠D) (hD:c.h₀.get? D=none/\¬cF cenv D/\sB.heap.objs.size<=D) (hC:sB.heap.objs.size<=cenv.locals)
 (W:Wd c s σ L) (F:ax c cenv sc' s L ρ0) (hst:St 0 L s.heap) (ha:s.heap.get? D=some ⟨.type "list",none,.seq items0 ep0,#[]⟩) (hr:ag L s.heap acc0 items0.toList) (X:Ex (λb=>sB.heap.objs.size<=b) sB s LB L)
 (hBo:∀b,B b->L.own b=none) (hBl:∀b,B b->b < s.heap.objs.size) (hDo:L.own D=none)
 (h:cn chk (λv=>t.bind v ρ0) (λρ' σ' Q'=>iZ (aj c) k .And ifs ρ' σ' Q') (λρ' σ' Q'=>a8 (aj c) k elt ρ' σ' Q') l acc0 σ Q') :
 codeAny (model c.prog c.w) A (.compLoop (.ListComp elt.py [⟨t.py,iter,ifs.py,0⟩] scope pos) 0 (.ref I) (.ref D) cenv) (uk c sB LB cenv sc' ρ0 D Q') s:=by
 refine jx (jz c s sB LB cenv sc' ρ0 D Q' t B chk l St elt ifs k) ?_ l.length
  ⟨0,acc0,σ,L,ep0,items0,rfl,W,hst,ha,hr,F,X,hBo,DQ _,hDo,h⟩
 clear h hst ha hr F X hBo hDo W;rintro n s ⟨i,acc,σ,L,ep,items,hn,W,hst,ha,hr,F,X,hBo,hz,hDo,hw⟩;have hh:=hR.1;rcases FP i l.length with hi | hi
 ·
  have hx:l[i]? = some l[i]:=DW hi;rw [Gs hi] at hw;refine hw.consE λhc hbig ρ' hb hw=>?_;refine jy hh It W F (λb hb=>⟨hBo b hb,(hB b hb).1,(hB b hb).2.1⟩) hc hst hx (Tg.okl_ok ht) hb (λv s₁ h₁=>h₁) λs₂ W₂ X2 V2 k₂ F2 hst2=>?_;have hDk:¬(B D\/gg cenv sc' t D):=λq=>q.elim (λq=>(hB D q).2.2.2 rfl) λq=>hD.2.1 q.fra;have ha₂:=k₂ D _ hDk ha;have hBk:∀b,B b\/gg cenv sc' t b->sB.heap.objs.size<=b:=λb q=>q.elim (λq=>(hB b q).2.2.1) λq=>(gg.loc ht q).symm▸hC;have X2':Ex (λb=>sB.heap.objs.size<=b) sB s₂ LB L:=X.trans (X2.wider hBk);refine DU (hifs A s₂ σ L cenv ρ' _ k hR W₂ F2 hw) (λb s₃ h₃=>?_) λ_ _ f=>f.elim;obtain ⟨σ3,L3,W3,X3,hw₃⟩:=h₃;have V3:=X3.vm0;have hst3:St (i+1) L3 s₃.heap:=It.keep _ _ _ _ _ hst2 V3 λb o hb e=>X3.keep b o id (hBo b hb) e;have ha3:=X3.keep D _ id hDo ha₂;have hDlt:D < s₂.heap.objs.size:=Ec ha₂;have hDo3:L3.own D=none:=(X3.own D hDlt).trans hDo;have hz₂:=DM hz X2.size;have hBo3:∀b,B b->L3.own b=none:=λb hb=>(X3.own b (DI (hBl b hb) hz₂)).trans (hBo b hb);have hr₃:ag L3 s₃.heap acc items.toList:=(hr.mono V2).mono V3;have F3:=F2.mono X3;have X3':Ex (λb=>sB.heap.objs.size<=b) sB s₃ LB L3:=X2'.trans X3.weak;have hz₃:=DM hz₂ X3.size;cases b with
  | false=>
   rw [if_neg DY] at hw₃;rw [if_neg DY];exact ⟨n - 1,by lia,i+1,acc,σ3,L3,ep,items,by lia,W3,hst3,ha3,hr₃,F3.weaken (hρ _ _ hb),X3',hBo3,hz₃,hDo3,hw₃⟩
  | true=>
   rw [if_pos rfl] at hw₃;rw [if_pos rfl];refine DU (helt A s₃ σ3 L3 cenv ρ' _ k hR W3 F3 hw₃) (λu s₄ h₄=>?_) λ_ _ f=>f.elim;obtain ⟨V,σ4,L4,W4,X4,hv,hw4⟩:=h₄;have V4:=X4.vm0;have hst₄:St (i+1) L4 s₄.heap:=It.keep _ _ _ _ _ hst3 V4 λb o hb e=>X4.keep b o id (hBo3 b hb) e;have ha₄:=X4.keep D _ id hDo3 ha3;have hDo4:L4.own D=none:=(X4.own D (Ec ha3)).trans hDo3;have hBo4:∀b,B b->L4.own b=none:=λb hb=>(X4.own b (DI (hBl b hb) hz₃)).trans (hBo3 b hb);have hr₄:ag L4 s₄.heap acc items.toList:=hr₃.mono V4;have hsz:items.size=acc.length:=by rw [← hr.length,DT]
   refine Mt ha₄ (λh' hs hD'=>?_) (by rw [hsz];exact aV hbig);have hkD:∀b o,¬b=D->s₄.heap.get? b=some o->h'.get? b=some o:=λb o hb e=>(hs.2 b hb).trans e;refine cj (W4.step (s':={s₄ with heap:=h'}) (B:=λb=>b=D) hkD (λb hb=>hb▸hDo4) (λb hb=>hb▸hD.1) (λb its m hb e=>cE ha₄ rfl (by decide) b _ hb e rfl) (Ee hs.1.symm) rfl rfl) λW5 X5 V5=>?_;have F4:=F3.mono X4;have hnD:∀b,cF cenv b->¬b=D:=λb hb e=>hD.2.1 (e▸hb);have F5:ax c cenv sc' {s₄ with heap:=h'} L4 ρ':=F4.mono' V5 X5.own (λo e=>hkD _ o (hnD _ (.inl rfl)) e) λy a hya o e=>hkD a o (hnD a (.inr ⟨y,hya⟩)) e;refine ⟨n - 1,by lia,i+1,acc ++ [V],σ4,L4,ep+1,items.push u,by lia,W5,?_,hD',?_,F5.weaken (hρ _ _ hb),?_,hBo4,?_,hDo4,hw4⟩
   · exact It.keep _ _ _ _ _ hst₄ V5 λb o hb e=>hkD b o (hB b hb).2.2.2 e
   · rw [Fo];exact (hr₄.mono V5).append (ag.cons (hv.mono V5) ag.nil)
   · exact (X3'.trans X4.weak).trans (X5.wider λb hb=>by rw [hb];exact hD.2.2)
   · exact DM hz₃ (DM X4.size X5.size)
 ·
  rw [GP hi] at hw;rw [show i=l.length by lia] at hst;refine It.done A s σ L _ _ hh W hBo hw.1 hst λh' tk hk hz=>?_;have hpt:∀b items n,B b->s.heap.get? b≠some ⟨.type "tuple",none,.seq items n,#[]⟩:=λb items n hb e=>It.pt _ L s.heap hst b _ hb e rfl;refine cj (W.step (s':={s with heap:=h',toks:=tk}) hk hBo (λb hb=>(hB b hb).1) hpt hz rfl rfl) λW1 X1 V1=>?_;refine ⟨rfl,acc,σ,L,ep,items,W1,hk D _ (λq=>(hB D q).2.2.2 rfl) ha,hr.mono V1,?_,X.trans (X1.wider λb q=>(hB b q).2.2.1),hDo,hw.2⟩;exact F.mono' V1 X1.own (λo e=>hk _ o (λq=>(hB _ q).2.1 (.inl rfl)) e) λy a hya o e=>hk a o (λq=>(hB a q).2.1 (.inr ⟨y,hya⟩)) e
end
noncomputable def relab(outer sc:az):az:=sc.map λx=>if x.2 == .free && outer.lookup x.1 == some .cell then (x.1,.cell) else x
noncomputable def bw(outer sc:az)(t:Tg):Bool:=
 (sc.all λx=>x.2 != .cell && (x.2 != .local || sc.lookup x.1 == some .local) && (x.2 != .free || outer.lookup x.1 == some .cell)) && t.okl sc && t.okl (relab outer sc)
theorem gA(outer:az):∀(sc:az) (x:String),(relab outer sc).lookup x=(sc.lookup x).map λk=>if k == .free && outer.lookup x == some .cell then .cell else k
 | [],x=>rfl
 | (y,k)::r,x=>by
  have ih:=gA outer r x;rw [show relab outer ((y,k)::r)=(y,if k == .free && outer.lookup y == some .cell then Js else k)::relab outer r from congrArg (·::relab outer r) (by dsimp only;split <;> rfl),ET,ET];cases e:x == y with
  | true=>rw [beq_iff_eq.mp e];rfl
  | false=>exact ih
section
variable {c:Cx} {A:Em} {Er:DF->DA->Prop} {s:DA} {σ:aa} {L:ao} {env:Env} {sc scI:az} {ρ ρ':af}
inductive zf(env:Env)(names:List (Ek×Hb))(acc:List (Ek×Ep)):Prop
 | mk (cl):(forIn names acc (λ(y:Ek×Hb) (cs:List (Ek×Ep))=>(do
  if y.2 == Jt then do
   let a ← cellOf env y.1
   pure (FV ((y.1,a)::cs))
  else pure (FV cs):Sem _)))=pure cl->(∀x a,cl.lookup x=some a->env.cells.lookup x=some a)->(∀x a,acc.lookup x=some a->cl.lookup x≠none)->(∀y∈names,y.2=.free->cl.lookup y.1≠none)->zf env names acc
theorem uo(env:Env):∀(names:List (Ek×Hb)) (acc:List (Ek×Ep)),(∀x a,acc.lookup x=some a->env.cells.lookup x=some a)->(∀y∈names,y.2=.free->∃a,env.cells.lookup y.1=some a)->zf env names acc:=by
 intro names;induction names with
 | nil=>exact λacc h _=>⟨acc,rfl,h,λx a e=>e▸nofun,λy hy=>(DX hy).elim⟩
 | cons n r ih=>
  intro acc h hf;by_cases hk:(n.2 == Jt)=true
  · refine (hf n (.head _) (beq_iff_eq.mp hk)).elim λa ha=>?_;have hself:IF n.1 ((n.1,a)::acc)=some a:=by rw [ET,beq_self_eq_true]
    have hoth:∀{x},(x == n.1)=false->IF x ((n.1,a)::acc)=acc.lookup x:=λq=>by rw [ET,q]
    refine (ih ((n.1,a)::acc) (λx b e=>?_) λy hy=>hf y (.tail _ hy)).casesOn λcl h1 h2 h3 h4=>⟨cl,?_,h2,λx b e=>?_,λy hy hy2=>?_⟩
    · cases q:x == n.1 with
      | true=>rw [beq_iff_eq.mp q,hself] at e;rw [beq_iff_eq.mp q,ha];exact e
      | false=>exact h x b ((hoth q).symm.trans e)
    · rw [Gv,if_pos hk];unfold cellOf;rw [ha];exact h1
    · cases q:x == n.1 with
      | true=>exact h3 x a (beq_iff_eq.mp q▸hself)
      | false=>exact h3 x b ((hoth q).trans e)
    · exact (D5.mp hy).elim (λe=>e▸h3 _ a hself) λhy=>h4 y hy hy2
  · refine (ih acc h λy hy=>hf y (.tail _ hy)).casesOn λcl h1 h2 h3 h4=>⟨cl,?_,h2,h3,λy hy hy2=>?_⟩
    · rw [Gv,if_neg hk];exact h1
    · exact (D5.mp hy).elim (λe=>absurd (beq_iff_eq.mpr (e▸hy2)) hk) λhy=>h4 y hy hy2
theorem ph(scope:Scope)(env:Env)(hf:∀y∈scope.names,y.2=.free->∃a,env.cells.lookup y.1=some a) :
 ∃cl,closureFor scope env=pure cl/\(∀x a,cl.lookup x=some a->env.cells.lookup x=some a)/\(∀y∈scope.names,y.2=.free->cl.lookup y.1≠none):=
 (uo env scope.names [] (λx a e=>nomatch e) hf).casesOn λcl h1 h2 _ h4=>⟨cl,congrArg (λm:Sem (List (Ek×Ep))=>m >>= λx=>pure x) h1,h2,h4⟩
theorem xH(F:ax c env sc s L ρ):(relabel scI.py env).names=(relab sc scI).map λx=>(Dy x.1,x.2):=by
 unfold relabel relab az.py;simp only [Ea];refine El λx hx=>?_;obtain ⟨n,k⟩:=x;simp only [Function.comp];have e1:(env.scope.kind == ScopeKind.function)=true:=by rw [F.kind];rfl
 rw [F.kindOf n,e1,Bool.and_true];by_cases q:(k == Jt && sc.lookup n == some Js)=true
 · rw [if_pos q,if_pos q]
 · rw [if_neg q,if_neg q]
theorem vM(F:ax c env sc s L ρ){t:Tg}(hchk:bw sc scI t=true){C:Ep}{cl:List (Ek×Ep)}{cenv:Env}
 (hs:cenv.scope=relabel scI.py env) (hl:cenv.locals=C) (hg:cenv.globals=env.globals) (hb:cenv.builtins=env.builtins) (hc:cenv.cells=cl)
 (h2:∀x a,cl.lookup x=some a->env.cells.lookup x=some a) (h4:∀y∈scI.py.names,y.2=.free->cl.lookup y.1≠none)
 (hn:s.heap.Ns C (λ_=>none)) (hC:L.own C=none) (hC0:c.h₀.get? C=none):ax c cenv (relab sc scI) s L (ρ.inner scI):=by
 have hall:=Et.mp (DP.mp (DP.mp hchk).1).1;have hfree:∀x,scI.lookup x=some .free->sc.lookup x=some .cell:=λx hx=>beq_iff_eq.mp (DP.mp (hall _ (db hx))).2;have hnocell:∀x,scI.lookup x≠some .cell:=λx hx=>nomatch (DP.mp (DP.mp (hall _ (db hx))).1).1;have hcl:∀x,scI.lookup x=some .free->∃a,cl.lookup (Dy x)=some a/\env.cells.lookup (Dy x)=some a:=λx hx=>
  (Option.ne_none_iff_exists'.mp (h4 (Dy x,.free) (DO.mpr ⟨(x,.free),db hx,rfl⟩) rfl)).imp λa e=>⟨e,h2 _ _ e⟩
 have hrel:∀x,scI.lookup x=some .free->(relab sc scI).lookup x=some .cell:=λx hx=>by
  rw [gA,hx,hfree x hx];rfl
 have inner:∀{x v} {G:Prop},ρ.inner scI x=some v->(scI.lookup x=some .free->ρ x=some v->G)->G:=λ{x v G} hx k=>by
  by_cases q:scI.lookup x=some .free
  · exact k q ((if_pos q).symm.trans hx)
  · exact nomatch (if_neg q).symm.trans hx
 refine ⟨by rw [hs];rfl,by rw [hs];exact xH F,by rw [hg];exact F.glob,by rw [hb];exact F.bi,⟨λ_=>none,by rw [hl];exact hn,λx v hx hlo=>inner hx λq _=>nomatch (hrel x q).symm.trans hlo⟩,λx v hx hlo=>inner hx λq hv=>?_,λx hx=>?_,
  by rw [hl];exact hC,by rw [hl];exact hC0,λx a ha=>F.cellown x a (h2 x a (hc▸ha)),λx y a hx hy=>F.cellinj x y a (h2 x a (hc▸hx)) (h2 y a (hc▸hy))⟩
 · refine aN (hcl x q) λa e1 e2=>?_;have hne:sc.lookup x≠some .local:=hfree x q▸nofun;exact (F.cel x v hv hne).2.casesOn λa' pv g1 g2 g3=>⟨.inl (hrel x q),a',pv,by rw [hc,e1,← e2,g1],g2,g3⟩
 · rw [gA] at hx;refine (Ew.mp hx).elim λk q=>?_;by_cases g:(k == Jt && sc.lookup x == some Js)=true
   · have hk:k=.free:=beq_iff_eq.mp (DP.mp g).1;have q1:=hk▸q.1;refine aN (hcl x q1) λa e1 e2=>bf (F.cells x (hfree x q1)) λa' v g1 g2=>⟨a',v,by rw [hc,e1,← e2,g1],g2⟩
   · exact absurd (q.1.trans (congrArg some ((if_neg g).symm.trans q.2))) (hnocell x)
end
inductive dB(c:Cx)(t:Tg)(s:DA)(L:ao)(K:(aa->Prop)->List PV->aa->Prop)(it:DF)(s':DA):Prop
 | mk:∀I B chk l St Mid σ' L',it=.ref I->Wd c s' σ' L'->Ex bZ s s' L L'->dU c t I B chk l St Mid->St 0 L' s'.heap->(∀b,B b->s.heap.objs.size<=b/\b < s'.heap.objs.size/\L'.own b=none)->K chk l σ'->dB c t s L K it s'
noncomputable def jA(c:Cx)(sc:az)(it:It)(t:Tg):Prop:=∀(A:Em) (s:DA) (σ:aa) (L:ao) (env:Env) (ρ:af) (K:(aa->Prop)->List PV->aa->Prop) (k:Nat),bl k A->Wd c s σ L->ax c env sc s L ρ->mW (aj c) k it ρ σ K->
 wpAny (model c.prog c.w) A (eval it.py env) (λx s₁=>wpAny (model c.prog c.w) A (pyIter x) (dB c t s L K) aY s₁) aY s
theorem IsCell.lt{h:EI}{a:Ep}{v:Option DF}(x:h.IsCell a v):a < h.objs.size:=x.elim λ_ h=>Ec h.1
section
variable {c:Cx} {A:Em} {Er:DF->DA->Prop} {s:DA} {σ:aa} {L:ao} {env:Env} {sc scI:az} {ρ ρ':af}
theorem Wd.h0none(W:Wd c s σ L){b:Ep}(h:c.h₀.objs.size<=b):c.h₀.get? b=none:=
 HV.mpr λ_ e=>absurd (Ec e) (E2.mpr h)
theorem lZ{t:Tg}(ht:t.okl scI=true):∀v ρ',t.bind v (ρ.inner scI)=some ρ'->∀x u,ρ.inner scI x=some u->ρ' x=some u:=by
 have key:∀{x y u},(scI.lookup x == some .local)=true->ρ.inner scI y=some u->y≠x:=λ{x y u} h q e=>by
  rw [e,af.inner,if_neg (by rw [beq_iff_eq.mp h];exact nofun)] at q;exact nomatch q
 intro v ρ' hb x u hx;cases t with
 | name y _=>exact DN hb▸(if_neg (key ht hx)).trans hx
 | pair y _ z _ _ _=>
  refine (Ew.mp hb).elim λq h=>h.2▸?_;exact (if_neg (key (DP.mp ht).2 hx)).trans ((if_neg (key (DP.mp ht).1 hx)).trans hx)
theorem iw{t:Tg}(h:bw sc scI t=true):t.okl scI=true/\t.okl (relab sc scI)=true:=
 ⟨(DP.mp (DP.mp h).1).2,(DP.mp h).2⟩
theorem ix{t:Tg}(h:bw sc scI t=true){x:Ek×Hb}(hx:x∈scI.py.names){G:Prop}(k:∀y∈scI,(Dy y.1,y.2)=x->(y.2 != .cell)=true->(y.2 != .local || scI.lookup y.1 == some .local)=true->(y.2 != .free || sc.lookup y.1 == some .cell)=true->G):G:=
 (DO.mp hx).elim λy hy=>by
  have:=DP.mp (Et.mp (DP.mp (DP.mp h).1).1 y hy.1);exact k y hy.1 hy.2 (DP.mp this.1).1 (DP.mp this.1).2 this.2
theorem eu{t:Tg}(h:bw sc scI t=true):(∀x∈scI.py.names,x.2≠.cell)/\(∀x∈scI.py.names,x.2=.local->scI.py.names.lookup x.1=some .local):=
 ⟨λx hx e=>ix h hx λy _ q h1 _ _=>bne_iff_ne.mp h1 ((congrArg La q).trans e),
  λx hx e=>ix h hx λy _ q _ h2 _=>by
   rw [← q];refine (cA ..).trans (beq_iff_eq.mp (((Hw ..).mp h2).resolve_left λz=>bne_iff_ne.mp z ((congrArg La q).trans e)))⟩
theorem gB(F:ax c env sc s L ρ){t:Tg}(h:bw sc scI t=true):∃cl,closureFor scI.py env=pure cl/\(∀x a,cl.lookup x=some a->env.cells.lookup x=some a)/\(∀y∈scI.py.names,y.2=.free->cl.lookup y.1≠none):=
 ph scI.py env λy hy hf=>ix h hy λz _ q _ _ h3=>by
  rw [← q];exact (F.cells z.1 (beq_iff_eq.mp (((Hw ..).mp h3).resolve_left λw=>bne_iff_ne.mp w ((congrArg La q).trans hf)))).imp λa h=>h.elim λ_ h=>h.1
theorem jB{K:Type}{t:Tg}{k:Nat}{obj:Obj}{newAcc:Sem DF}{e:Expr}(hR:bl k A)(hchk:bw sc scI t=true)(W:Wd c s σ L)(F:ax c env sc s L ρ){I:Ep}{B:Ep->Prop}{chk:aa->Prop}{l:List PV}{St:Nat->ao->EI->Prop}{Mid:Nat->DF->ao->EI->Prop}
 {σ2:aa} {L2:ao} {s₂:DA} {cl:List (Ek×Ep)} (W₂:Wd c s₂ σ2 L2) (X2:Ex bZ s s₂ L L2) (It:dU c t I B chk l St Mid) (hst:St 0 L2 s₂.heap) (hB:∀b,B b->s.heap.objs.size<=b/\b < s₂.heap.objs.size/\L2.own b=none)
 (hcl2:∀x a,cl.lookup x=some a->env.cells.lookup x=some a) (hcl4:∀y∈scI.py.names,y.2=.free->cl.lookup y.1≠none) {RR:DF->Ep->Iq->DA->Prop}
 (hnew:∀Q':DF->DA->Prop,Q' (.ref s₂.heap.objs.size) {s₂ with heap:=s₂.heap.push obj}->wpAny (model c.prog c.w) A newAcc Q' Er s₂) (hobj:obj.cls≠.type "tuple") (hobj2:obj.isFreed=false)
 (go:∀cenv s₄,(∀b o,s₂.heap.get? b=some o->s₄.heap.get? b=some o)->ax c cenv (relab sc scI) s₄ L2 (ρ.inner scI)->Wd c s₄ σ2 L2->Ex bZ s s₄ L L2->St 0 L2 s₄.heap->s₄.heap.get? s₂.heap.objs.size=some obj->cenv.locals=s₂.heap.objs.size+1->(∀b,B b->b < s₄.heap.objs.size)->
  (∀b,B b->c.h₀.get? b=none/\¬cF cenv b/\s.heap.objs.size<=b/\b≠s₂.heap.objs.size)->(c.h₀.get? s₂.heap.objs.size=none/\¬cF cenv s₂.heap.objs.size/\s.heap.objs.size<=s₂.heap.objs.size)->s.heap.objs.size<=cenv.locals->L2.own s₂.heap.objs.size=none->
  codeAny (model c.prog c.w) A (.compStart e 0 (.ref I) (.ref s₂.heap.objs.size) cenv) (RR (.ref s₂.heap.objs.size) cenv.locals) s₄) :
 wpAny (model c.prog c.w) A newAcc (λacc s₃=>wpAny (model c.prog c.w) A (newFunctionEnv scI.py env.globals cl [] env.qual none .none (some env)) (λcenv s₄=>
  codeAny (model c.prog c.w) A (.compStart e 0 (.ref I) acc {cenv with scope:=relabel scI.py env}) (RR acc cenv.locals) s₄) Er s₃) Er s₂:=by
 refine hnew _ (wpAny_newFunctionEnv (eu hchk).1 (λ_ h=>(DX h).elim) (λh₁ hns1 hsb1=>?_) rfl);dsimp only at hns1 hsb1 ⊢;have hpush:(s₂.heap.push obj).objs.size=s₂.heap.objs.size+1:=FD ..;rw [hpush] at hns1 hsb1 ⊢;have hk₁:∀b o,(s₂.heap.push obj).get? b=some o->h₁.get? b=some o:=λb o eq=>(hsb1.2 b (D1 (hpush▸Ec eq))).trans (DJ _ eq);have hk:∀b o,s₂.heap.get? b=some o->h₁.get? b=some o:=λb o eq=>hk₁ b o (DJ _ eq);have hz:h₁.objs.size=s₂.heap.objs.size+2:=by rw [hsb1.1,FD,hpush]
 obtain ⟨W4,X4⟩:=W₂.grow (s':={s₂ with heap:=h₁,toks:=s₂.toks+([]:List (Ek×DF)).length}) (hz▸Ed _ _) hk rfl rfl;have F2:=F.mono X2;have hsz:=X2.size;have FC:ax c {newEnv scI.py (s₂.heap.objs.size+1) env.globals cl env.qual none .none (some env) (env.builtins) with scope:=relabel scI.py env} (relab sc scI) {s₂ with heap:=h₁,toks:=s₂.toks+([]:List (Ek×DF)).length} L2 (ρ.inner scI):=
  vM (F2.mono X4) hchk rfl rfl rfl rfl rfl hcl2 hcl4 (by show h₁.Ns (s₂.heap.objs.size+1) _;simpa using hns1) (W₂.fresh _ (E6 _)) (W₂.h0none (FG W₂.size0))
 refine go _ _ hk FC W4 (X2.trans X4) (It.keep _ _ _ _ _ hst X4.vm0 λb o _ eq=>hk b o eq) (hk₁ _ _ (DZ _ hobj2)) rfl (λb hb=>DI (hB b hb).2.1 (hz▸Ed _ _)) (λb hb=>?_)
  ⟨W₂.h0none W₂.size0,λq=>q.elim (λq=>D1 (D6 _) q) λq=>q.elim λx q=>(F2.cellown x _ (hcl2 x _ q)).cell.elim λ_ h=>Fi _ (IsCell.lt h),hsz⟩ (FG hsz) (W₂.fresh _ (DQ _))
 refine cj (hB b hb) λb1 b2 b3=>⟨W.h0none (DM W.size0 b1),λq=>q.elim (λq=>D1 (En b2) q) λq=>q.elim λx q=>
  (F.cellown x _ (hcl2 x _ q)).cell.elim λ_ h=>absurd (IsCell.lt h) (E2.mpr b1),b1,D1 b2⟩
end
mutual
theorem jC(e:E)(r:Env)(x:DF):foldedSetIterable e.py r x=pure x:=by
 cases e with
 | test t=>exact uq t r x
 | _=>rfl
theorem uq(t:T)(r:Env)(x:DF):foldedSetIterable t.py r x=pure x:=by
 cases t with
 | val e=>exact jC e r x
 | _=>rfl
end
theorem jD:∀(i:It) (env:Env) (x:DF),foldedSetIterable i.py env x=pure x
 | .e e,r,b=>jC e r b
 | .range ..,_,_ | .enum ..,_,_=>rfl
section
variable {c:Cx} {A:Em} {Er:DF->DA->Prop} {s:DA} {σ:aa} {L:ao} {env:Env} {sc scI:az} {ρ ρ':af}
inductive j9(c:Cx)(s' sB:DA)(LB L:ao)(D:Ep)(p:al)(σ':aa):Prop
 | mk (L'):Wd c s' σ' L'->Ex bZ sB s' LB L'->VM s' s' L L'->(∀b,b≠D->L'.own b=L.own b)->ak L' s'.heap (.ref p) (.ref D)->j9 c s' sB LB L D p σ'
theorem oi{sB s':DA}{LB:ao}{D:Ep}{o:PO}{ob:Obj}{p:al}(W:Wd c s' σ L)(WB:c.h₀.objs.size<=sB.heap.objs.size)(ha:s'.heap.get? D=some ob)(hnt:∀its n,ob≠⟨.type "tuple",none,.seq its n,#[]⟩)
 (X:Ex (λb=>sB.heap.objs.size<=b) sB s' LB L) (hDo:L.own D=none) (hD:sB.heap.objs.size<=D) (hp:σ p=none) (hV:VM s' s' L (L.add p D)->eS c.w (L.add p D) s'.heap p o):j9 c s' sB LB L D p (σ.set p o):=by
 have hD0:c.h₀.objs.size<=D:=DM WB hD;refine cj (W.adopt hp (o:=o) hDo (W.h0none hD0) (Ec ha) hD0 (λits n e=>hnt its n (DN (ha.symm.trans e))) hV) λW' V' r=>?_;have hown:∀b,b≠D->(L.add p D).own b=L.own b:=λb hb=>L.add_ne p hb;refine ⟨_,W',⟨X.size,λb hb=>(hown b (D1 (DI hb hD))).trans (X.own b hb),λb o _ ho e=>X.keep b o (HE.mpr (Ec e)) ho e,λq hq=>?_⟩,V',hown,r⟩;have h:=X.ad q hq;exact ⟨(V'.ref q (by rw [h.1,X.own _ h.2];exact hq)).1.trans h.1,h.2⟩
theorem i3{sB s':DA}{LB:ao}{D:Ep}{acc:List PV}{items:Array DF}{ep:Nat}(W:Wd c s' σ L)(WB:c.h₀.objs.size<=sB.heap.objs.size)(ha:s'.heap.get? D=some ⟨.type "list",none,.seq items ep,#[]⟩)(hr:ag L s'.heap acc items.toList)
 (X:Ex (λb=>sB.heap.objs.size<=b) sB s' LB L) (hDo:L.own D=none) (hD:sB.heap.objs.size<=D) {p:al} (hp:σ p=none):j9 c s' sB LB L D p (σ.set p (.list acc)):=
 oi W WB ha (λ_ _ e=>absurd (Ia (congrArg Mx e)) (by decide)) X hDo hD hp λV=>⟨items,ep,by rw [L.add_ad];exact ha,hr.mono V⟩
theorem gj{sB s':DA}{LB:ao}{D:Ep}{acc:List (PV×PV)}{es:Array EB}{ep:Nat}(W:Wd c s' σ L)(WB:c.h₀.objs.size<=sB.heap.objs.size)(ha:s'.heap.get? D=some ⟨.type "dict",none,.dict es ep,#[]⟩)(hr:aA c.w L s'.heap acc es.toList)(hnd:(acc.map (·.1)).Nodup)
 (X:Ex (λb=>sB.heap.objs.size<=b) sB s' LB L) (hDo:L.own D=none) (hD:sB.heap.objs.size<=D) {p:al} (hp:σ p=none):j9 c s' sB LB L D p (σ.set p (.dict acc)):=
 oi W WB ha (λ_ _ e=>absurd (Ia (congrArg Mx e)) (by decide)) X hDo hD hp λV=>⟨es,ep,by rw [L.add_ad];exact ha,hr.mono V,hnd⟩
theorem dY(W:Wd c s σ L){o:PO}{Q:PV->aa->Prop}(h:aQ σ o Q):∃p,σ p=none/\Q (.ref p) (σ.set p o):=
 h.elim (λh=>W.fin.elim λN hN=>⟨_,hN N (DQ _),h N (hN N (DQ _))⟩) id
theorem oj{cenv:Env}{sc':az}{ρ0:af}{D:Ep}{o:PO}{s':DA}{σ':aa}{L':ao}{Q:PV->aa->Prop}(W':Wd c s' σ' L')(F':ax c cenv sc' s' L' ρ0)(hC:s.heap.objs.size<=cenv.locals)(X':Ex (λb=>s.heap.objs.size<=b) s s' L L')(hnew:aQ σ' o Q)
 (ad:∀s₂ q,Wd c s₂ σ' L'->VM s' s₂ L' L'->(∀b o,¬b=cenv.locals->s'.heap.get? b=some o->s₂.heap.get? b=some o)->Ex (λb=>s.heap.objs.size<=b) s s₂ L L'->σ' q=none->j9 c s₂ s L L' D q (σ'.set q o)) :
 ∃m,s'.heap.Ns cenv.locals m/\∀h',Fp cenv.locals s'.heap h'->aq c s L Q (.ref D) {s' with heap:=h'}:=by
 refine F'.loc.imp λm hn=>⟨hn.1,λh' hs=>?_⟩;have hk:∀b o,¬b=cenv.locals->s'.heap.get? b=some o->h'.get? b=some o:=λb o hb e=>(hs.2 b hb).trans e;have f:=F'.fra cenv.locals (.inl rfl);refine cj (W'.step (s':={s' with heap:=h'}) hk (λb hb=>hb▸f.own) (λb hb=>hb▸f.old) (λb its n hb=>hb▸f.tup its n) (Ee hs.1.symm) rfl rfl) λW₂ X2 V2=>?_;refine aN (dY W₂ hnew) λq hq hQ=>?_;exact (ad _ q W₂ V2 hk (X'.trans (X2.wider λb hb=>hb▸hC)) hq).casesOn λL3 W3 X3 _ _ r=>⟨.ref q,_,L3,W3,X3,r,hQ⟩
theorem om{it:It}{t:Tg}{elt:E}{ifs:Ts}{p:Pos}{k:Nat}{Q':List PV->aa->Prop}{use:Option (DF->Sem Unit)}{QQ:DF->DA->Prop}(hR:bl k A)(hit:jA c sc it t)(helt:SE c (relab sc scI) elt)(hifs:oh c (relab sc scI) ifs)(hchk:bw sc scI t=true)
 (W:Wd c s σ L) (F:ax c env sc s L ρ) (pos:Pos)
 (hw:mW (aj c) k it ρ σ λchk l σ1=>cn chk (λv=>t.bind v (ρ.inner scI)) (λρ' σ' Q'=>iZ (aj c) k .And ifs ρ' σ' Q') (λρ' σ' Q'=>a8 (aj c) k elt ρ' σ' Q') l [] σ1 Q')
 (hfin:∀cenv D s',uk c s L cenv (relab sc scI) (ρ.inner scI) D Q' (.ok .next) s'->s.heap.objs.size<=D->s.heap.objs.size<=cenv.locals->D≠cenv.locals->compPost (model c.prog c.w) A aY use QQ (.ref D) cenv.locals (.ok .next) s') :
 wpAny (model c.prog c.w) A (comprehension (.ListComp elt.py [⟨t.py,it.py,ifs.py,0⟩] scI.py p) scI.py env pos (newList []) false (eval it.py env) use) QQ aY s:=by
 refine aZ (gB F hchk) λcl hclos hcl2 hcl4=>?_;obtain ⟨hcell,hnames⟩:=eu hchk;obtain ⟨ht1,ht2⟩:=iw hchk;refine Hr (g:=⟨t.py,it.py,ifs.py,0⟩) (gs:=[]) (cl:=cl) rfl (λx=>jD it env x) hclos rfl hnames
  (DU (hit A s σ L env ρ _ k hR W F hw) (λx s₁ h₁=>DU h₁ (λitv s₂ h₂=>?_) λ_ _ e=>e) λ_ _ e=>e)
 obtain ⟨I,B,chk,l,St,Mid,σ2,L2,rfl,W₂,X2,It,hst,hB,hwc⟩:=h₂;refine jB (K:=Unit) (t:=t) (k:=k) (obj:={cls:=.type "list",data:=.seq #[]}) (RR:=λacc C=>compPost (model c.prog c.w) A aY use QQ acc C) hR hchk W F W₂ X2 It hst hB hcl2 hcl4
  (λQ' hq=>FH hq) (by simp) rfl ?_
 intro cenv s₄ _ FC W4 X4 hst₄ hD hloc hBl hB' hDD hC hDo;have loop:=um (iter:=it.py) (scope:=scI.py) (pos:=p) (Q':=Q') hR It helt hifs ht2 (lZ ht1) hB' hDD hC W4 FC hst₄ hD (ag.nil) X4.weak (λb hb=>(hB b hb).2.2) hBl hDo hwc;have hne:s₂.heap.objs.size≠cenv.locals:=by rw [hloc];exact D1 (D6 _)
 have fin:codeAny (model c.prog c.w) A (.compLoop (.ListComp elt.py [⟨t.py,it.py,ifs.py,0⟩] scI.py p) 0 (.ref I) (.ref s₂.heap.objs.size) cenv) (compPost (model c.prog c.w) A aY use QQ (.ref s₂.heap.objs.size) cenv.locals) s₄:=
  Hm loop λr s' hr=>(show r=.ok .next from hr.1)▸hfin cenv _ s' (hr.1▸hr) hDD.2.2 hC hne
 exact JL fin (It.self A 0 s₄ L2 _ _ hst₄ fin)
theorem qo{it:It}{t:Tg}{elt:E}{ifs:Ts}{p:Pos}(hit:jA c sc it t)(helt:SE c (relab sc scI) elt)(hifs:oh c (relab sc scI) ifs)(hchk:bw sc scI t=true):SE c sc (.lcomp elt t it ifs scI p):=by
 intro A s σ L env ρ Q k hR W F hw;show wpAny _ _ (eval (.ListComp elt.py [⟨t.py,it.py,ifs.py,0⟩] scI.py p) env) _ _ _;rw [Lb];refine om hR hit helt hifs hchk W F _ hw λcenv D s' hr hD hC hne=>?_;obtain ⟨_,acc,σ',L',ep,items,W',ha,hr2,F',X',hDo,hnew⟩:=hr;exact oj W' F' hC X' hnew λs₂ q W₂ V2 hk X2 hq=>i3 W₂ W.size0 (hk D _ hne ha) (hr2.mono V2) X2 hDo hD hq
end
section
variable {c:Cx} {A:Em} {Er:DF->DA->Prop} {s:DA} {σ:aa} {L:ao} {env:Env} {sc scI:az} {ρ ρ':af}
theorem i4{D:Ep}{es:Array EB}{n:Nat}{d:List (PV×PV)}{x y:PV}{key v:DF}{Q:Unit->DA->Prop}(hu:A.units+20 < cLine)(ho:s.heap.get? D=some ⟨.type "dict",none,.dict es n,#[]⟩)(R:aA c.w L s.heap d es.toList)(hn:(d.map (·.1)).Nodup)
 (hk:DK d x) (hl:d.length < ay) (hx:ak L s.heap x key) (hy:ak L s.heap y v)
 (hQ:∀h' t es' n',h'.get? D=some ⟨.type "dict",none,.dict es' n',#[]⟩->Fp D s.heap h'->aA c.w L s.heap (bB d x y) es'.toList->((bB d x y).map (·.1)).Nodup->Q () {s with heap:=h',toks:=t}) :
 wpAny (model c.prog c.w) A (dictSet D key v) Q Er s:=by
 refine D2 ?_;refine Dz (hk.hash (c:=c) (L:=L) hu hx λt=>?_);refine D2 ?_;refine Dz (kJ (s:={s with toks:=t}) (by lia) ho rfl R hn hk.1 hk.2.1 hk.2.2 hx ?_);refine dd (d:=d) (x:=x) (λh1 h2=>?_) λj u h1 h2 h3=>?_
 · rw [h1];refine Dz (Ft (Hc (hz:=by rw [dX R];exact aV hl) (s:={s with toks:=t}) ho rfl ?_));refine hQ _ t _ _ (ED _ ho rfl) (Ej ..) (by rw [eM y h1,Fo];exact R.push hx hy hk.1) ?_;rw [eM y h1,D4,EV];exact ⟨hn,by simp,λa ha b hb e=>kL h1 ((e.trans (DS.mp hb):a=x)▸ha)⟩
 · rw [h1];refine Dz (Ft (Dz (Lp (s:={s with toks:=t}) ho rfl (MI ?_))));exact hQ _ t _ _ (ED _ ho rfl) (Ej ..) (by rw [Kp];exact R.setv hy h1) (by rw [jr y h1];exact hn)
inductive xI(c:Cx)(sB:DA)(LB:ao)(cenv:Env)(sc':az)(ρ0:af)(D:Ep)(Q':List (PV×PV)->aa->Prop)(r:Iq)(s':DA):Prop
 | mk:r=.ok .next->∀acc σ L ep es,Wd c s' σ L->s'.heap.get? D=some ⟨.type "dict",none,.dict es ep,#[]⟩->aA c.w L s'.heap acc es.toList->(acc.map (·.1)).Nodup->ax c cenv sc' s' L ρ0->(Ex (λb=>sB.heap.objs.size<=b) sB s' LB L)->L.own D=none->Q' acc σ->xI c sB LB cenv sc' ρ0 D Q' r s'
inductive jE(c:Cx)(s:DA)(sB:DA)(LB:ao)(cenv:Env)(sc':az)(ρ0:af)(D:Ep)(Q':List (PV×PV)->aa->Prop)(t:Tg)(B:Ep->Prop)(chk:aa->Prop)(l:List PV)(St:Nat->ao->EI->Prop)(kx:E)(vx:E)(k:Nat)(n:Nat)(s':DA):Prop
 | mk:∀i acc σ L ep es,n+i=l.length->Wd c s' σ L->St i L s'.heap->s'.heap.get? D=some ⟨.type "dict",none,.dict es ep,#[]⟩->aA c.w L s'.heap acc es.toList->(acc.map (·.1)).Nodup->ax c cenv sc' s' L ρ0->(Ex (λb=>sB.heap.objs.size<=b) sB s' LB L)->(∀b,B b->L.own b=none)->s.heap.objs.size<=s'.heap.objs.size->L.own D=none->(dJ chk (λv=>t.bind v ρ0) (λρ' σ' Q'=>a8 (aj c) k kx ρ' σ' λx σ3=>a8 (aj c) k vx ρ' σ3 λy σ4=>Q' x y σ4) (l.drop i) acc σ Q')->jE c s sB LB cenv sc' ρ0 D Q' t B chk l St kx vx k n s'
theorem ur{sB:DA}{LB:ao}{cenv:Env}{sc':az}{ρ0:af}{D:Ep}{Q':List (PV×PV)->aa->Prop}{t:Tg}{I:Ep}{B:Ep->Prop}{chk:aa->Prop}{l:List PV}{St:Nat->ao->EI->Prop}{Mid:Nat->DF->ao->EI->Prop}
 {kx vx:E} {iter:Expr} {scope:Scope} {pos:Pos} {k:Nat} {es0:Array EB} {ep0:Nat} {acc0:List (PV×PV)}
 (hR:bl k A) (It:dU c t I B chk l St Mid) (hkx:SE c sc' kx) (hvx:SE c sc' vx) (ht:t.okl sc'=true) (hρ:∀v ρ',t.bind v ρ0=some ρ'->∀x u,ρ0 x=some u->ρ' x=some u)
 (hB:∀b,B b->c.h₀.get? b=none/\¬cF cenv b/\sB.heap.objs.size<=b/\b≠D) (hD:c.h₀.get? D=none/\¬cF cenv D/\sB.heap.objs.size<=D) (hC:sB.heap.objs.size<=cenv.locals)
 (W:Wd c s σ L) (F:ax c cenv sc' s L ρ0) (hst:St 0 L s.heap) (ha:s.heap.get? D=some ⟨.type "dict",none,.dict es0 ep0,#[]⟩) (hr:aA c.w L s.heap acc0 es0.toList) (hnd:(acc0.map (·.1)).Nodup) (X:Ex (λb=>sB.heap.objs.size<=b) sB s LB L)
 (hBo:∀b,B b->L.own b=none) (hBl:∀b,B b->b < s.heap.objs.size) (hDo:L.own D=none)
 (h:dJ chk (λv=>t.bind v ρ0) (λρ' σ' Q'=>a8 (aj c) k kx ρ' σ' λx σ3=>a8 (aj c) k vx ρ' σ3 λy σ4=>Q' x y σ4) l acc0 σ Q') :
 codeAny (model c.prog c.w) A (.compLoop (.DictComp kx.py vx.py [⟨t.py,iter,[],0⟩] scope pos) 0 (.ref I) (.ref D) cenv) (xI c sB LB cenv sc' ρ0 D Q') s:=by
 refine pb (jE c s sB LB cenv sc' ρ0 D Q' t B chk l St kx vx k) ?_ l.length
  ⟨0,acc0,σ,L,ep0,es0,rfl,W,hst,ha,hr,hnd,F,X,hBo,DQ _,hDo,h⟩
 clear h hst ha hr hnd F X hBo hDo W;rintro n s ⟨i,acc,σ,L,ep,es,hn,W,hst,ha,hr,hnd,F,X,hBo,hz,hDo,hw⟩;have hh:=hR.1;rcases FP i l.length with hi | hi
 · have hx:l[i]? = some l[i]:=DW hi;rw [Gs hi] at hw;refine hw.consE λhc hbig ρ' hb hw=>?_;refine jy hh It W F (λb hb=>⟨hBo b hb,(hB b hb).1,(hB b hb).2.1⟩) hc hst hx (Tg.okl_ok ht) hb (λv s₁ h₁=>h₁) λs₂ W₂ X2 V2 k₂ F2 hst2=>?_;have hDk:¬(B D\/gg cenv sc' t D):=λq=>q.elim (λq=>(hB D q).2.2.2 rfl) λq=>hD.2.1 q.fra;have ha₂:=k₂ D _ hDk ha;have hBk:∀b,B b\/gg cenv sc' t b->sB.heap.objs.size<=b:=λb q=>q.elim (λq=>(hB b q).2.2.1) λq=>(gg.loc ht q).symm▸hC;have X2':Ex (λb=>sB.heap.objs.size<=b) sB s₂ LB L:=X.trans (X2.wider hBk);have hz₂:=DM hz X2.size;refine DU (hkx A s₂ σ L cenv ρ' _ k hR W₂ F2 hw) (λku s₃ h₃=>?_) λ_ _ f=>f.elim;obtain ⟨KV,σ3,L3,W3,X3,hkv,hw₃⟩:=h₃;have V3:=X3.vm0;have hst3:St (i+1) L3 s₃.heap:=It.keep _ _ _ _ _ hst2 V3 λb o hb e=>X3.keep b o id (hBo b hb) e;have ha3:=X3.keep D _ id hDo ha₂;have hDo3:L3.own D=none:=(X3.own D (Ec ha₂)).trans hDo;have hBo3:∀b,B b->L3.own b=none:=λb hb=>(X3.own b (DI (hBl b hb) hz₂)).trans (hBo b hb);have hz₃:=DM hz₂ X3.size;have F3:=F2.mono X3;refine DU (hvx A s₃ σ3 L3 cenv ρ' _ k hR W3 F3 hw₃) (λu s₄ h₄=>?_) λ_ _ f=>f.elim;obtain ⟨V,σ4,L4,W4,X4,hv,hdk,hw4⟩:=h₄;have V4:=X4.vm0;have hst₄:St (i+1) L4 s₄.heap:=It.keep _ _ _ _ _ hst3 V4 λb o hb e=>X4.keep b o id (hBo3 b hb) e;have ha₄:=X4.keep D _ id hDo3 ha3;have hDo4:L4.own D=none:=(X4.own D (Ec ha3)).trans hDo3;have hBo4:∀b,B b->L4.own b=none:=λb hb=>(X4.own b (DI (hBl b hb) hz₃)).trans (hBo3 b hb);have hr₄:aA c.w L4 s₄.heap acc es.toList:=((hr.mono V2).mono V3).mono V4;refine i4 (by have:=hR.2.2;lia) ha₄ hr₄ hnd hdk hbig (hkv.mono V4) hv λh' tk es' n' hD' hs hr' hnd'=>?_;have hkD:∀b o,¬b=D->s₄.heap.get? b=some o->h'.get? b=some o:=λb o hb e=>(hs.2 b hb).trans e;refine cj (W4.step (s':={s₄ with heap:=h',toks:=tk}) (B:=λb=>b=D) hkD (λb hb=>hb▸hDo4) (λb hb=>hb▸hD.1) (λb its m hb e=>cE ha₄ rfl (by decide) b _ hb e rfl) (Ee hs.1.symm) rfl rfl) λW5 X5 V5=>?_;have F4:=F3.mono X4;have hnD:∀b,cF cenv b->¬b=D:=λb hb e=>hD.2.1 (e▸hb);have F5:ax c cenv sc' {s₄ with heap:=h',toks:=tk} L4 ρ':=F4.mono' V5 X5.own (λo e=>hkD _ o (hnD _ (.inl rfl)) e) λy a hya o e=>hkD a o (hnD a (.inr ⟨y,hya⟩)) e;refine ⟨n - 1,by lia,i+1,_,σ4,L4,n',es',by lia,W5,?_,hD',hr'.mono V5,hnd',F5.weaken (hρ _ _ hb),?_,hBo4,?_,hDo4,hw4⟩
   · exact It.keep _ _ _ _ _ hst₄ V5 λb o hb e=>hkD b o (hB b hb).2.2.2 e
   · exact ((X2'.trans X3.weak).trans X4.weak).trans (X5.wider λb hb=>by rw [hb];exact hD.2.2)
   · exact DM hz₃ (DM X4.size X5.size)
 · rw [GP hi] at hw;rw [show i=l.length by lia] at hst;refine It.done A s σ L _ _ hh W hBo hw.1 hst λh' tk hk hz=>?_;have hpt:∀b items n,B b->s.heap.get? b≠some ⟨.type "tuple",none,.seq items n,#[]⟩:=λb items n hb e=>It.pt _ L s.heap hst b _ hb e rfl;refine cj (W.step (s':={s with heap:=h',toks:=tk}) hk hBo (λb hb=>(hB b hb).1) hpt hz rfl rfl) λW1 X1 V1=>?_;refine ⟨rfl,acc,σ,L,ep,es,W1,hk D _ (λq=>(hB D q).2.2.2 rfl) ha,hr.mono V1,hnd,?_,X.trans (X1.wider λb q=>(hB b q).2.2.1),hDo,hw.2⟩;exact F.mono' V1 X1.own (λo e=>hk _ o (λq=>(hB _ q).2.1 (.inl rfl)) e) λy a hya o e=>hk a o (λq=>(hB a q).2.1 (.inr ⟨y,hya⟩)) e
theorem ot{it:It}{t:Tg}{kx vx:E}{p:Pos}{k:Nat}{Q':List (PV×PV)->aa->Prop}{use:Option (DF->Sem Unit)}{QQ:DF->DA->Prop}(hR:bl k A)(hit:jA c sc it t)(hkx:SE c (relab sc scI) kx)(hvx:SE c (relab sc scI) vx)(hchk:bw sc scI t=true)
 (W:Wd c s σ L) (F:ax c env sc s L ρ) (pos:Pos)
 (hw:mW (aj c) k it ρ σ λchk l σ1=>dJ chk (λv=>t.bind v (ρ.inner scI)) (λρ' σ' Q'=>a8 (aj c) k kx ρ' σ' λx σ3=>a8 (aj c) k vx ρ' σ3 λy σ4=>Q' x y σ4) l [] σ1 Q')
 (hfin:∀cenv D s',xI c s L cenv (relab sc scI) (ρ.inner scI) D Q' (.ok .next) s'->s.heap.objs.size<=D->s.heap.objs.size<=cenv.locals->D≠cenv.locals->compPost (model c.prog c.w) A aY use QQ (.ref D) cenv.locals (.ok .next) s') :
 wpAny (model c.prog c.w) A (comprehension (.DictComp kx.py vx.py [⟨t.py,it.py,[],0⟩] scI.py p) scI.py env pos newDict false (eval it.py env) use) QQ aY s:=by
 refine aZ (gB F hchk) λcl hclos hcl2 hcl4=>?_;obtain ⟨hcell,hnames⟩:=eu hchk;obtain ⟨ht1,ht2⟩:=iw hchk;refine Hr (g:=⟨t.py,it.py,[],0⟩) (gs:=[]) (cl:=cl) rfl (λx=>jD it env x) hclos rfl hnames
  (DU (hit A s σ L env ρ _ k hR W F hw) (λx s₁ h₁=>DU h₁ (λitv s₂ h₂=>?_) λ_ _ e=>e) λ_ _ e=>e)
 obtain ⟨I,B,chk,l,St,Mid,σ2,L2,rfl,W₂,X2,It,hst,hB,hwc⟩:=h₂;refine jB (K:=Unit) (t:=t) (k:=k) (obj:={cls:=.type "dict",data:=.dict #[]}) (RR:=λacc C=>compPost (model c.prog c.w) A aY use QQ acc C) hR hchk W F W₂ X2 It hst hB hcl2 hcl4
  (λQ' hq=>FH hq) (by simp) rfl ?_
 intro cenv s₄ _ FC W4 X4 hst₄ hD hloc hBl hB' hDD hC hDo;have loop:=ur (acc0:=[]) (iter:=it.py) (scope:=scI.py) (pos:=p) (Q':=Q') hR It hkx hvx ht2 (lZ ht1) hB' hDD hC W4 FC hst₄ hD rfl Fg X4.weak (λb hb=>(hB b hb).2.2) hBl hDo hwc;have hne:s₂.heap.objs.size≠cenv.locals:=by rw [hloc];exact D1 (D6 _)
 have fin:codeAny (model c.prog c.w) A (.compLoop (.DictComp kx.py vx.py [⟨t.py,it.py,[],0⟩] scI.py p) 0 (.ref I) (.ref s₂.heap.objs.size) cenv) (compPost (model c.prog c.w) A aY use QQ (.ref s₂.heap.objs.size) cenv.locals) s₄:=
  Hm loop λr s' hr=>(show r=.ok .next from hr.1)▸hfin cenv _ s' (hr.1▸hr) hDD.2.2 hC hne
 exact codeAny_compStart_dict fin (It.self A 0 s₄ L2 _ _ hst₄ fin)
theorem qp{it:It}{t:Tg}{kx vx:E}{p:Pos}(hit:jA c sc it t)(hkx:SE c (relab sc scI) kx)(hvx:SE c (relab sc scI) vx)(hchk:bw sc scI t=true):SE c sc (.dcomp kx vx t it scI p):=by
 intro A s σ L env ρ Q k hR W F hw;show wpAny _ _ (eval (.DictComp kx.py vx.py [⟨t.py,it.py,[],0⟩] scI.py p) env) _ _ _;rw [arm_eval_DictComp];refine ot hR hit hkx hvx hchk W F _ hw λcenv D s' hr hD hC hne=>?_;obtain ⟨_,acc,σ',L',ep,es,W',ha,hr2,hnd,F',X',hDo,hnew⟩:=hr;exact oj W' F' hC X' hnew λs₂ q W₂ V2 hk X2 hq=>gj W₂ W.size0 (hk D _ hne ha) (hr2.mono V2) hnd X2 hDo hD hq
end
noncomputable def kQ(c:Cx)(sc:az)(es:Es):Prop:=∀(A:Em) (s:DA) (σ:aa) (L:ao) (env:Env) (ρ:af) (Q:List PV->aa->Prop) (k:Nat),bl k A->Wd c s σ L->ax c env sc s L ρ->jm (aj c) k es ρ σ Q->
 wpAny (model c.prog c.w) A (spliced (fb es env)) (λvs s'=>vs.length=es.len/\j8 c s L Q vs s') aY s
noncomputable def SV(c:Cx)(sc:az)(t:T):Prop:=∀(A:Em) (s:DA) (σ:aa) (L:ao) (env:Env) (ρ:af) (Q:Bool->aa->Prop) (k:Nat),bl k A->Wd c s σ L->ax c env sc s L ρ->kK (aj c) k t ρ σ Q->
 wpAny (model c.prog c.w) A (eval t.py env) (λv s'=>∃b,v=.bool b/\aH c s L Q b s') aY s
noncomputable def vO(c:Cx)(sc:az)(ts:Ts):Prop:=∀(op:BoolOp) (A:Em) (s:DA) (σ:aa) (L:ao) (env:Env) (ρ:af) (Q:Bool->aa->Prop) (k:Nat),bl k A->Wd c s σ L->ax c env sc s L ρ->iZ (aj c) k op ts ρ σ Q->
 wpAny (model c.prog c.w) A (allTrue op ts.py env) (aH c s L Q) aY s
noncomputable def vP(c:Cx)(sc:az)(ts:Ts):Prop:=∀(op:BoolOp) (pos:Pos) (A:Em) (s:DA) (σ:aa) (L:ao) (env:Env) (ρ:af) (Q:Bool->aa->Prop) (k:Nat),bl k A->Wd c s σ L->ax c env sc s L ρ->iZ (aj c) k op ts ρ σ Q->
 wpAny (model c.prog c.w) A (boolOp pos op (evalEach ts.py env)) (λv s'=>∃b,v=.bool b/\aH c s L Q b s') aY s
section
variable {c:Cx} {A:Em} {s:DA} {σ:aa} {L:ao} {env:Env} {sc:az} {ρ:af} {k:Nat}
theorem SE.use{e:E}(h:SE c sc e){Q:PV->aa->Prop}{P:DF->DA->Prop}(hR:bl k A)(W:Wd c s σ L)(F:ax c env sc s L ρ)(hw:a8 (aj c) k e ρ σ Q)
 (next:∀V σ1 L1 v s₁,Wd c s₁ σ1 L1->Ex bZ s s₁ L L1->ax c env sc s₁ L1 ρ->ak L1 s₁.heap V v->Q V σ1->P v s₁):wpAny (model c.prog c.w) A (eval e.py env) P aY s:=
 DU (h A s σ L env ρ Q k hR W F hw) (λv s₁ h=>h.casesOn λV σ1 L1 W1 X1 hv hq=>next V σ1 L1 v s₁ W1 X1 (F.mono X1) hv hq) λ_ _ f=>f
theorem A7(k':Const)(n:Nat)(p:Pos):SE c sc (.cst k' n p):=by
 intro A s σ L env ρ Q k hR W F hw;cases k' with
 | none=>exact wpAny_Constant_none (aq.here W vN hw)
 | bool b=>exact wpAny_Constant_bool (aq.here W vB hw)
 | int i=>exact I6 (aq.toks W _ vI hw)
 | str x=>exact I8 (aq.toks W _ vS hw)
 | _=>exact hw.elim
theorem A8(x:String)(p:Pos)(hd:x≠"__debug__")(hc:x≠"__classdict__"):SE c sc (.var x p):=by
 intro A s σ L env ρ Q k hR W F hw;exact hw.casesOn λV hv hq=>dz F hd hc hv λv hr=>aq.here W hr hq
theorem zQ(G:Gd c){e:E}(he:SE c sc e)(a:String)(p:Pos):SE c sc (.attr e a p):=by
 intro A s σ L env ρ Q k hR W F hw;exact Ma (he.use hR W F hw λV σ1 L1 v s₁ W1 X1 F1 hv hq=>hq.casesOn λx hx hq=>zL G W1 hv hx λr t hr=>aq.trans X1 (aq.toks W1 t hr hq)) (by rw [KG,eD])
theorem zR:kQ c sc .nil:=by
 intro A s σ L env ρ Q k hR W F hw;exact IH ⟨rfl,[],σ,L,W,Ex.refl W,ag.nil,hw⟩
theorem xJ{e:E}{es:Es}(he:SE c sc e)(hes:kQ c sc es):kQ c sc (.cons e es):=by
 intro A s σ L env ρ Q k hR W F hw;refine Hn (he.use hR W F hw λV σ1 L1 v s₁ W1 X1 F1 hv hq=>?_);refine DU (hes A s₁ σ1 L1 env ρ _ k hR W1 F1 hq) (λvs s₂ h₂=>?_) λ_ _ f=>f;exact h₂.2.casesOn λVs σ2 L2 W₂ X2 hvs hq2=>⟨congrArg (·+1) h₂.1,V::Vs,σ2,L2,W₂,X1.trans X2,ag.cons (hv.mono X2.vm0) hvs,hq2⟩
theorem A9{es:Es}(h:kQ c sc es)(hl:es.len < 1000)(n:Nat)(p:Pos):SE c sc (.tup es n p):=by
 intro A s σ L env ρ Q k hR W F hw;refine wpAny_Tuple (k:=n) ?_;rw [eT];refine DU (h A s σ L env ρ _ k hR W F hw) (λvs s₁ h₁=>?_) λ_ _ f=>f;exact h₁.2.casesOn λVs σ1 L1 W1 X1 hvs hq=>⟨h₁.1▸aV (DH hl (by decide)),aq.trans X1 (aq.tup W1 hvs hq)⟩
theorem zS{es:Es}(h:kQ c sc es)(hl:es.len < 1000)(p:Pos):SE c sc (.list es p):=by
 intro A s σ L env ρ Q k hR W F hw;refine wpAny_List ?_;rw [eT];refine DU (h A s σ L env ρ _ k hR W F hw) (λvs s₁ h₁=>?_) λ_ _ f=>f;exact h₁.2.casesOn λVs σ1 L1 W1 X1 hvs hq=>⟨h₁.1▸aV (DH hl (by decide)),aq.trans X1 (aq.newList (n:=0) W1 (DQ _) (λb o e=>DJ _ e) rfl rfl (DZ _ rfl) (by simpa using hvs) hq)⟩
theorem aq.newDict{Q:PV->aa->Prop}{d:List (PV×PV)}{es:Array EB}{s':DA}{a:Ep}{n:Nat}(W:Wd c s σ L)(hz:s.heap.objs.size<=a)(hk:∀b o,s.heap.get? b=some o->s'.heap.get? b=some o)(hg:s'.gens=s.gens)(ho:s'.os=s.os)
 (ha:s'.heap.get? a=some ⟨.type "dict",none,.dict es n,#[]⟩) (hl:aA c.w L s.heap d es.toList) (hn:(d.map (·.1)).Nodup) (h:aQ σ (.dict d) Q):aq c s L Q (.ref a) s':=
 aq.new W h hz (Ec ha) hk (λp V=>⟨es,n,by rw [L.add_ad];exact ha,hl.mono V,hn⟩) hg ho
theorem xK(p:Pos):SE c sc (.dict0 p):=by
 intro A s σ L env ρ Q k hR W F hw;exact wpAny_Dict_empty (aq.newDict (d:=[]) (n:=0) (es:=#[]) W (DQ _) (λb o e=>DJ _ e) rfl rfl (DZ _ rfl) rfl Fg hw)
mutual
theorem fm(e:E)(o:DF)(i:DF):subscripted e.py false o i=operate [o,i] (getItem o i):=by
 cases e with
 | test t=>exact l0 t o i
 | _=>rfl
theorem l0(t:T)(o:DF)(i:DF):subscripted t.py false o i=operate [o,i] (getItem o i):=by
 cases t with
 | val e=>exact fm e o i
 | _=>rfl
end
theorem Bg{e i:E}(he:SE c sc e)(hi:SE c sc i)(p:Pos):SE c sc (.sub e i p):=by
 intro A s σ L env ρ Q k hR W F hw;refine KB (he.use hR W F hw λV σ1 L1 v s₁ W1 X1 F1 hv hq=>?_);refine hi.use hR W1 F1 hq λI σ2 L2 u s₂ W₂ X2 F2 hu hq2=>?_;have g:=t7 (Er:=aY) W₂ hR.units (hv.mono X2.vm0) hu hq2;exact bf g.1 λT id hT hl=>Kc hT hl (DU g.2 (λr s₃ h₃=>aq.trans X1 (aq.trans X2 h₃)) λ_ _ f=>f) (fm i v u)
theorem zT{e:E}(he:SE c sc e)(n:Int)(h0:0<=n)(h1:n < 1000)(pn ps p:Pos):SE c sc (.slFrom e n pn ps p):=by
 intro A s σ L env ρ Q k hR W F hw;exact zO W h0 (he.use hR W F hw λV σ1 L1 v s₁ W1 X1 F1 hv hq=>⟨V,σ1,L1,W1,X1,hv,hq.2.2⟩)
theorem CD{e:E}(he:SE c sc e)(n:Int)(h0:0<=n)(h1:n < 1000)(pn ps p:Pos):SE c sc (.slTo e n pn ps p):=by
 intro A s σ L env ρ Q k hR W F hw;exact Cy W h0 (he.use hR W F hw λV σ1 L1 v s₁ W1 X1 F1 hv hq=>⟨V,σ1,L1,W1,X1,hv,hq.2.2⟩)
theorem Bh{a b:E}(ha:SE c sc a)(hb:SE c sc b)(op:LX)(p:Pos):SE c sc (.bin a op b p):=by
 intro A s σ L env ρ Q k hR W F hw;refine wpAny_BinOp (ha.use hR W F hw λV σ1 L1 v s₁ W1 X1 F1 hv hq=>?_);refine hb.use hR W1 F1 hq λU σ2 L2 u s₂ W₂ X2 F2 hu hq2=>?_;exact DU (AX (Er:=aY) W₂ (hv.mono X2.vm0) hu hq2) (λr s₃ h₃=>aq.trans X1 (aq.trans X2 h₃)) λ_ _ f=>f
theorem Bl{e:E}(he:SE c sc e)(p:Pos):SE c sc (.neg e p):=by
 intro A s σ L env ρ Q k hR W F hw;refine Mn (he.use hR W F hw λV σ1 L1 v s₁ W1 X1 F1 hv hq=>?_);revert hv;exact hq.casesOn λhq hv=>DU (AY (Er:=aY) W1 hv hq) (λr s₃ h₃=>aq.trans X1 h₃) λ_ _ f=>f
theorem Bm{t:T}{a b:E}(ht:ST c sc t)(ha:SE c sc a)(hb:SE c sc b)(p:Pos):SE c sc (.ife t a b p):=by
 intro A s σ L env ρ Q k hR W F hw;refine wpAny_IfExp (DU (ht A s σ L env ρ _ k hR W F hw) (λr s₁ h₁=>?_) λ_ _ f=>f);refine h₁.casesOn λσ1 L1 W1 X1 hq=>?_;cases r with
 | true=>exact ha.use hR W1 (F.mono X1) hq λV σ2 L2 v s₂ W₂ X2 F2 hv hq2=>⟨V,σ2,L2,W₂,X1.trans X2,hv,hq2⟩
 | false=>exact hb.use hR W1 (F.mono X1) hq λV σ2 L2 v s₂ W₂ X2 F2 hv hq2=>⟨V,σ2,L2,W₂,X1.trans X2,hv,hq2⟩
theorem zU{t:T}(h:SV c sc t):SE c sc (.test t):=by
 intro A s σ L env ρ Q k hR W F hw;refine DU (h A s σ L env ρ _ k hR W F hw) (λv s₁ h₁=>?_) λ_ _ f=>f;exact h₁.elim λb h=>h.2.casesOn λσ1 L1 W1 X1 hq=>⟨.bool b,σ1,L1,W1,X1,h.1,hq⟩
theorem aH.here{Q:Bool->aa->Prop}{b:Bool}(W:Wd c s σ L)(h:Q b σ):aH c s L Q b s:=⟨σ,L,W,Ex.refl W,h⟩
theorem aH.toks{Q:Bool->aa->Prop}{b:Bool}(t:Nat)(W:Wd c s σ L)(h:Q b σ):aH c s L Q b {s with toks:=t}:=⟨σ,L,W.toks t s.drawn,W.exToks t s.drawn,h⟩
theorem xM{e:Expr}{Q:Bool->aa->Prop}{M:HK}(h:wpAny M A (eval e env) (λv s'=>∃b,v=.bool b/\aH c s L Q b s') aY s)
 (he:isTrue e env (eval e env)=(do let v ← eval e env;standAt e.pos;holding [v] (truthy v))):wpAny M A (isTrue e env (eval e env)) (aH c s L Q) aY s:=
 wpAny_isTrue_value (DU h (λv s₁ h=>h.elim λb h=>h.1▸FE h.2) λ_ _ f=>f) he
theorem Bn(G:Gd c){a b:E}(ha:SE c sc a)(hb:SE c sc b)(op:Ku)(p:Pos)(hm:behindInMarks op b.py=false):SV c sc (.cmp a op b p):=by
 intro A s σ L env ρ Q k hR W F hw;refine wpAny_Compare1 (ha.use hR W F hw λV σ1 L1 v s₁ W1 X1 F1 hv hq=>?_) hm;refine hb.use hR W1 F1 hq λU σ2 L2 u s₂ W₂ X2 F2 hu hq2=>?_;exact js G W₂ hR.units (hv.mono X2.vm0) hu hq2 λr t hr=>⟨r,rfl,aH.trans X1 (aH.trans X2 (aH.toks t W₂ hr))⟩
theorem Bo(G:Gd c){a b:E}(ha:SE c sc a)(hb:SE c sc b)(op:Ku)(p:Pos)(hm:behindInMarks op b.py=false):ST c sc (.cmp a op b p):=by
 intro A s σ L env ρ Q k hR W F hw;refine J3 (ha.use hR W F hw λV σ1 L1 v s₁ W1 X1 F1 hv hq=>?_) hm;refine hb.use hR W1 F1 hq λU σ2 L2 u s₂ W₂ X2 F2 hu hq2=>?_;exact js G W₂ hR.units (hv.mono X2.vm0) hu hq2 λr t hr=>FE (aH.trans X1 (aH.trans X2 (aH.toks t W₂ hr)))
theorem aH.neg{s s':DA}{L:ao}{Q:Bool->aa->Prop}{b:Bool}(h:aH c s L (λb σ=>Q (!b) σ) b s'):aH c s L Q (!b) s':=by
 exact h.casesOn λ_ _ a b d=>⟨_,_,a,b,d⟩
theorem Bp{t:T}(h:ST c sc t)(p:Pos):ST c sc (.not t p):=by
 intro A s σ L env ρ Q k hR W F hw;exact wpAny_isTrue_Not (DU (h A s σ L env ρ _ k hR W F hw) (λb s₁ h₁=>h₁.neg) λ_ _ f=>f)
theorem zV{ts:Ts}(h:vO c sc ts)(op:BoolOp)(p:Pos):ST c sc (.bool op ts p):=by
 intro A s σ L env ρ Q k hR W F hw;exact wpAny_isTrue_BoolOp (h op A s σ L env ρ _ k hR W F hw)
theorem zW:vO c sc .nil:=by
 intro op A s σ L env ρ Q k hR W F hw;show wpAny _ _ (allTrue op [] env) _ _ _;cases op <;> exact DE (aH.here W hw)
theorem xN{t:T}{ts:Ts}(ht:ST c sc t)(hts:vO c sc ts):vO c sc (.cons t ts):=by
 intro op A s σ L env ρ Q k hR W F hw;show wpAny _ _ (allTrue op (t.py::ts.py) env) _ _ _;refine Dz (DU (ht A s σ L env ρ _ k hR W F hw) (λb s₁ h₁=>?_) λ_ _ f=>f);refine h₁.casesOn λσ1 L1 W1 X1 hq=>?_;cases op <;> cases b
 · exact DE (aH.trans X1 (aH.here W1 hq))
 · exact DU (hts .And A s₁ σ1 L1 env ρ _ k hR W1 (F.mono X1) hq) (λ_ _ h=>aH.trans X1 h) λ_ _ f=>f
 · exact DU (hts .Or A s₁ σ1 L1 env ρ _ k hR W1 (F.mono X1) hq) (λ_ _ h=>aH.trans X1 h) λ_ _ f=>f
 · exact DE (aH.trans X1 (aH.here W1 hq))
theorem kR{ts:List Expr}{env:Env}{Q:Bool->DA->Prop}{M:HK}(h:Q false s):wpAny M A (forIn ts false λc r=>if r=true then do let ok ← isTrue c env (eval c env);pure (FV ok) else pure (FV r)) Q aY s:=by
 induction ts with
 | nil=>exact DE h
 | cons t r ih=>
  rw [Gv];exact Dz (DE ih)
theorem zX:oh c sc .nil:=by
 intro A s σ L env ρ Q k hR W F hw;exact JX (aH.here W hw)
theorem xO{t:T}{ts:Ts}(ht:ST c sc t)(hts:oh c sc ts):oh c sc (.cons t ts):=by
 intro A s σ L env ρ Q k hR W F hw;show wpAny _ _ (forIn (t.py::ts.py) true _) _ _ _;rw [Gv];refine Dz ?_;rw [if_pos rfl];refine Dz (DU (ht A s σ L env ρ _ k hR W F hw) (λb s₁ h₁=>DE ?_) λ_ _ f=>f);refine h₁.casesOn λσ1 L1 W1 X1 hq=>?_;cases b
 · exact kR (aH.trans X1 (aH.here W1 hq))
 · exact DU (hts A s₁ σ1 L1 env ρ _ k hR W1 (F.mono X1) hq) (λ_ _ h=>aH.trans X1 h) λ_ _ f=>f
theorem SE.bool{e:E}(h:SE c sc e)(hR:bl k A)(W:Wd c s σ L)(F:ax c env sc s L ρ){Q:Bool->aa->Prop}(hw:kK (aj c) k (.val e) ρ σ Q):wpAny (model c.prog c.w) A (eval e.py env) (λv s'=>∃b,v=.bool b/\aH c s L Q b s') aY s:=by
 refine h.use hR W F hw λV σ1 L1 v s₁ W1 X1 F1 hv hq=>?_;revert hv;exact hq.casesOn λhq hv=>⟨_,hv,σ1,L1,W1,X1,hq⟩
theorem Bq{e:E}(h:SE c sc e):SV c sc (.val e):=λA s σ L env ρ Q k hR W F hw=>h.bool hR W F hw
noncomputable def E.plainT:E->Bool
 | .test _=>false
 | .ife ..=>false
 | _=>true
theorem pj{e:E}(h:e.plainT=true)(r:Env):isTrue e.py r (eval e.py r)=(do let v ← eval e.py r;standAt e.py.pos;holding [v] (truthy v)):=by
 cases e with
 | test | ife=>exact nomatch h
 | _=>rfl
theorem Br{e:E}(h:SE c sc e)(hp:e.plainT=true):ST c sc (.val e):=λA s σ L env ρ Q k hR W F hw=>xM (h.bool hR W F hw) (pj hp env)
theorem Bs{t:T}(h:SV c sc t)(p:Pos):SV c sc (.not t p):=by
 intro A s σ L env ρ Q k hR W F hw;refine Mn (DU (h A s σ L env ρ _ k hR W F hw) (λv s₁ h=>h.elim λb h=>h.1▸?_) λ_ _ f=>f);exact Dz (m:=truthy (.bool b)) (FE (DE ⟨_,rfl,h.2.neg⟩))
theorem zY(G:Gd c){a b d:E}(ha:SE c sc a)(hb:SE c sc b)(hd:SE c sc d)(op op2:Ku)(p:Pos)(hm:lastMarks [op,op2] [b.py,d.py]=false):ST c sc (.cmp2 a op b op2 d p):=by
 intro A s σ L env ρ Q k hR W F hw;refine isTrue_chain (hm:=hm) (ha.use hR W F hw λV σ1 L1 v s₁ W1 X1 F1 hv hq=>?_);show wpAny _ _ (testChain p v [op,op2] [eval b.py env,eval d.py env]) _ _ _;refine Dz (D2 (hb.use hR W1 F1 hq λU σ2 L2 u s₂ W₂ X2 F2 hu hq2=>Dz (Fj (Dz (D2 ?_)))));refine js G W₂ hR.units (hv.mono X2.vm0) hu hq2 λr t hr=>?_;refine Dz (Kx ?_);refine Dz (D2 (FE ?_));cases r with
 | false=>
  rw [if_neg DY] at hr;exact DE (aH.trans X1 (aH.trans X2 (aH.toks t W₂ hr)))
 | true=>
  rw [if_pos rfl] at hr;have W2':=W₂.toks t s₂.drawn;have F2':ax c env sc {s₂ with toks:=t} L2 ρ:=F2.mono (W₂.exToks t s₂.drawn);refine Dz (D2 (hd.use hR W2' F2' hr λZ σ3 L3 z s₃ W3 X3 F3 hz hq3=>Dz (Fj (Dz (wpAny_operating ?_)))));have hu3:ak L3 s₃.heap U u:=ak.mono X3.vm0 (ak.mono (W₂.exToks t s₂.drawn).vm0 hu);refine js G W3 hR.units hu3 hz hq3 λr' t' hr'=>D2 (FE ?_);exact aH.trans X1 (aH.trans X2 (aH.trans (W₂.exToks t s₂.drawn) (aH.trans X3 (aH.toks t' W3 hr'))))
end
section
variable {c:Cx} {A:Em} {Er:DF->DA->Prop} {s:DA} {σ:aa} {L:ao} {env:Env} {sc:az} {ρ:af} {k:Nat}
theorem eV{M:HK}{x:String}{pf p:Pos}{es:Es}{Q:DF->DA->Prop}(h:wpAny M A (eval (.Name (Dy x) pf) env) (λf s₁=>wpAny M A (callWith p f [] (fb es env) []) Q Er s₁) Er s) :
 wpAny M A (eval (.Call (.Name (Dy x) pf) es.py [] p) env) Q Er s:=by
 rw [GD,eT];exact Dz (DU h (λf s₁ h₁=>h₁) λ_ _ e=>e)
theorem gC{M:HK}{f:DF}{p:Pos}{es:Es}{Q:DF->DA->Prop}{T:String}(hf:f=.builtin T\/f=.type T)(h:wpAny M A (spliced (fb es env)) (λvs s₁=>wpAny M A (call f vs) Q Er s₁) Er s) :
 wpAny M A (callWith p f [] (fb es env) []) Q Er s:=by
 rcases hf with e | e <;> rw [e] at h ⊢
 · exact Ir (dA es env).2 (cw h)
 · exact PySem.callWith_type (dA es env).2 (cw h)
theorem Bi.callee_gtab(f:Bi):∃T,fi.lookup f.name=some f.callee/\(f.callee=.builtin T\/f.callee=.type T):=by
 cases f <;> exact ⟨_,by decide,by first | exact .inl rfl | exact .inr rfl⟩
theorem Fn.gtab_of(f:Fn)(h:f.gname≠"?"):fi.lookup f.gname=some (.ref f.addr):=
 IX (((Hw ..).mp (Fn.all (p:=λf=>f.gname == "?" || fi.lookup f.gname == some (.ref f.addr)) (by decide +kernel) f)).resolve_left λe=>h (beq_iff_eq.mp e))
theorem Cl.gtab_of(f:Cl):fi.lookup f.gname=some (.ref f.addr):=by
 cases f <;> decide
theorem CE(G:Gd c) (hdict:∀(A:Em) (s:DA) (σ:aa) (L:ao) (p:al) (l:List PV) (Q:PV->aa->Prop),A.handled=none->A.units+60 < cLine->Wd c s σ L->σ p=some (.list l)->l.length < ay->cJ l [] (λd=>aQ σ (.dict d) Q)->
 wpAny (model c.prog c.w) A (call (.type "dict") [.ref (L.ad p)]) (aq c s L Q) aY s)
 {f:Bi} {es:Es} (h:kQ c sc es) (hg:sc.lookup f.name=some .globalImplicit) (pf p:Pos):SE c sc (.bi f pf es p):=by
 intro A s σ L env ρ Q k hR W F hw;refine aN f.callee_gtab λT h1 h2=>?_;refine eV (cu G W F hg h1 (gC h2 (DU (h A s σ L env ρ _ k hR W F hw) (λvs s₁ h₁=>?_) λ_ _ f=>f)));refine h₁.2.casesOn λVs σ1 L1 W1 X1 hvs hq=>?_;exact DU (Cz (Er:=aY) G W1 hR.1 hR.units (λq l Q' hq hl hd=>hdict A s₁ σ1 L1 q l Q' hR.1 hR.units W1 hq hl hd) hvs hq) (λr s₂ h₂=>aq.trans X1 h₂) λ_ _ f=>f
theorem CF(G:Gd c){f:Fn}{es:Es}(h:kQ c sc es)(hn:f.gname≠"?")(hg:sc.lookup f.gname=some .globalImplicit)(pf p:Pos):SE c sc (.fn f pf es p):=by
 intro A s σ L env ρ Q k hR W F hw;refine eV (cu G W F hg (f.gtab_of hn) ?_);refine (G.fns f).casesOn λfd hfd _ _ _ _ _ _ _ _ _ _ _ _ _ _ _=>?_;refine Lc (o:=⟨.type "function",none,.func fd,#[]⟩) (fd:=fd) (cw (DU (h A s σ L env ρ _ k hR W F hw) (λvs s₁ h₁=>?_) λ_ _ f=>f));refine h₁.2.casesOn λVs σ1 L1 W1 X1 hvs hq=>?_;refine ⟨⟨W1.keep _ _ hfd,rfl⟩,?_⟩;show wpAny _ _ (call (.ref f.addr) ([] ++ vs) []) _ _ _;rw [LK];exact DU (hq A s₁ L1 vs hR W1 hvs) (λr s₂ h₂=>aq.trans X1 h₂) λ_ _ f=>f
theorem zZ(G:Gd c){e:E}{es:Es}(he:SE c sc e)(h:kQ c sc es)(m:String)(pa p:Pos)(hp:(pa.endLine == p.line)=true)(hl:es.len < 30):SE c sc (.meth e m pa es p):=by
 intro A s σ L env ρ Q k hR W F hw;refine jq hp hl (he.use hR W F hw λV σ1 L1 v s₁ W1 X1 F1 hv hq pl=>?_);obtain ⟨mk,hmk,hq⟩:=hq;refine jw G W1 hv hmk ?_;have fin:∀vs s₂,vs.length=es.len/\j8 c s₁ L1 (λvs σ2=>pU (aj c) k mk V vs σ2 Q) vs s₂->(∀b o,c.h₀.get? b=some o->s₂.heap.get? b=some o)/\wpAny (model c.prog c.w) A (call mk.callee (v::vs)) (aq c s L Q) aY s₂:=by
  refine λvs s₂ h₂=>h₂.2.casesOn λVs σ2 L2 W₂ X2 hvs hq2=>?_;exact ⟨W₂.keep,DU (zP G W₂ hR.units hR (hv.mono X2.vm0) hvs hq2) (λr s₃ h₃=>aq.trans X1 (aq.trans X2 h₃)) λ_ _ f=>f⟩
 have args:=DU (h A s₁ σ1 L1 env ρ _ k hR W1 F1 hq) fin λ_ _ f=>f;show wpAny _ _ (callWith p mk.callee [v] (fb es env) []) _ _ _;clear hmk fin hq;cases mk with
 | fn f=>
  refine (G.fns f).casesOn λfd hfd _ _ _ _ _ _ _ _ _ _ _ _ _ _ _=>?_;exact Lc (o:=⟨.type "function",none,.func fd,#[]⟩) (fd:=fd) (cw (DU args (λvs s₂ h₂=>⟨⟨h₂.1 _ _ hfd,rfl⟩,h₂.2⟩) λ_ _ f=>f))
 | _=>exact Ir (dA es env).2 (cw (DU args (λvs s₂ h₂=>h₂.2) λ_ _ f=>f))
section
variable {g:Array KN} {d:MH} {h:EI} {t:Nat} {os:LV} {prog:Fc} {w:Fs}
variable {C N:Ep} {nm q:Ek} {bs:List DF} {sn:List Ek} {sub:List DF} {col:Option Bool} {dd:Option Ep} {k0 k1 k2 k3 k5:Option DF} {newId:String}
@[reducible] def made(h:EI)(C:Ep):EI:=(h.push {cls:=.type "dict",data:=.dict #[]}).push {cls:=.ref C,dict:=some h.objs.size,data:=.plain}
theorem z0(F:MS newId){mN:Ek->Option DF}{rest:List DF}{fI:Ep}{oI:Obj}{Q:Fin->DA->Prop}
 (hC:h.get? C=some (excClassObj nm q C N bs [.type "object"] true sn sub false col dd k0 k1 k2 k3 k5 newId)) (hn:h.Ns N mN) (hi:mN "__init__" = some (.ref fI)) (hfI:h.get? fI=some oI) (hfc:oI.cls=.type "function")
 (hq:wpAny (model prog w) A (call (.ref fI) (.ref (h.objs.size+1)::rest)) (λr s'=>r=.none/\Q (.done (.ret (.ref (h.objs.size+1)))) s') Er ⟨made h C,g,d,t,os⟩) :
 wpAny (model prog w) A (FO.«type.__call__» ⟨.ref C::rest,[]⟩) Q Er ⟨h,g,d,t,os⟩:=by
 have hmro:mroOf (.type "object")=pure [.type "object"]:=by kernel_rfl
 have hlk:typeLookup (.type "object") "__init__" = pure (some (.builtin "object.__init__")):=by rw [Fz,EN];kernel_rfl
 repeat (first | with_reducible refine G3 hC ?_ | with_reducible refine wpAny_madeBy_exc hC ?_ | wp_step)
 refine codeAny_call_builtin_code (HF _ F.quiet) (wpAny_check_obj_new F hC (codeAny_obj_new F hC hn hi ?_));show wpAny _ _ _ _ _ _;have up:∀{b:Ep} {o:Obj},h.get? b=some o->(made h C).get? b=some o:=λe=>DJ _ (DJ _ e);have hn₁:(made h C).Ns N mN:=hn.keeps λb o e=>up e;have hget:(made h C).get? (h.objs.size+1)=some {cls:=.ref C,dict:=some h.objs.size,data:=.plain}:=by heap_get
 have hcC:(F7 C::[HG "object"]).contains (.ref C)=true:=by simp
 repeat (first | with_reducible refine G3 hget ?_ | (with_reducible refine wpAny_isSubtype_exc (up hC) ?_;rw [hcC]) | wp_step)
 show wpAny _ _ (typeLookup (.ref C) _) _ _ _;refine IE (up hC) hn₁ hmro hlk ?_;rw [hi];refine D2 (Dz ?_);refine Dz (Hl (T:="function") ⟨_,up hfI,hfc⟩ ?_);rw [if_pos (by decide)];refine DE (Dz (DU hq (λr s' hr=>?_) λ_ _ x=>x));obtain ⟨rfl,hQ⟩:=hr
 wp_walk
 exact hQ
theorem vQ(C:Ep)(rest:List DF):(My "type.__call__" ⟨.ref C::rest,[]⟩).weight=1/\(My "type.__call__" ⟨.ref C::rest,[]⟩).cUnits=1:=⟨by rfl,by rfl⟩
theorem vR(F:MS newId){mN:Ek->Option DF}{rest:List DF}{fI:Ep}{oI:Obj}{Q:DF->DA->Prop}
 (hC:h.get? C=some (excClassObj nm q C N bs [.type "object"] true sn sub false col dd k0 k1 k2 k3 k5 newId)) (hn:h.Ns N mN) (hi:mN "__init__" = some (.ref fI)) (hfI:h.get? fI=some oI) (hfc:oI.cls=.type "function")
 (hq:wpAny (model prog w) (A.under (.builtin "type.__call__" ⟨.ref C::rest,[]⟩)) (call (.ref fI) (.ref (h.objs.size+1)::rest)) (λr s'=>r=.none/\Q (.ref (h.objs.size+1)) s') Er ⟨made h C,g,d,t,os⟩) :
 wpAny (model prog w) A (call (.ref C) rest) Q Er ⟨h,g,d,t,os⟩:=by
 have f1:=tc_lookup;have f2:=tc_bind (.ref C);have hT:(⟨h,g,d,t,os⟩:DA).TypeIs (.ref C) "type":=⟨_,hC,rfl⟩;refine KH (IQ ?_);show wpAny _ _ (callAny (.ref C) _) _ _ _;repeat (any_goals (first | assumption | with_reducible refine G3 hC ?_ | wp_step))
 refine ⟨rfl,?_⟩;refine codeAny_call_builtin_at (HF _ (by decide +kernel)) entry_typeCall (wpAny_check_type_call_sub hC (z0 F hC hn hi hfI hfc hq))
end
end
section
variable {c:Cx} {A:Em} {s:DA} {σ:aa} {L:ao} {env:Env} {sc:az} {ρ:af} {k:Nat}
theorem Wd.make(W:Wd c s σ L){p:al}(hp:σ p=none)(cl:Cl) :
 ∃L',Wd c {s with heap:=made s.heap cl.addr} (σ.set p (.inst cl [])) L'/\Ex bZ s {s with heap:=made s.heap cl.addr} L L'/\ak L' (made s.heap cl.addr) (.ref p) (.ref (s.heap.objs.size+1)):=by
 have hnp:¬L.own (L.ad p)=some p:=λe=>((W.live p).mpr e).elim λo' h'=>nomatch hp.symm.trans h';have hk:∀b o,s.heap.get? b=some o->(made s.heap cl.addr).get? b=some o:=λb o e=>DJ _ (DJ _ e);have hz:(made s.heap cl.addr).objs.size=s.heap.objs.size+2:=by rw [FD,FD]
 have hget:(made s.heap cl.addr).get? (s.heap.objs.size+1)=some {cls:=.ref cl.addr,dict:=some s.heap.objs.size,data:=.plain}:=by heap_get
 have hgd:(made s.heap cl.addr).get? s.heap.objs.size=some {cls:=.type "dict",data:=.dict #[]}:=DJ _ (Heap.get?_push_at rfl rfl);let L':ao:=⟨λq=>if q=p then s.heap.objs.size+1 else L.ad q,λb=>if b=s.heap.objs.size\/b=s.heap.objs.size+1 then some p else L.own b⟩;have off:∀b,(b=s.heap.objs.size\/b=s.heap.objs.size+1->False)->L'.own b=L.own b:=λb h=>if_neg h;have e1:L'.ad p=s.heap.objs.size+1:=if_pos rfl;have e2:L'.own (s.heap.objs.size+1)=some p:=if_pos (.inr rfl);have R:=W.change (s':={s with heap:=made s.heap cl.addr}) (L':=L') p (.inst cl []) (by rw [hp];exact nofun) (hz▸Ed _ 2) (λb ob _ e=>hk b ob e)
  (λb hb=>off b λq=>q.elim (λq=>D1 hb q) λq=>D1 (En hb) q)
  (λb hb=>by
   by_cases h1:b=s.heap.objs.size\/b=s.heap.objs.size+1
   · exact .inr (if_pos h1)
   · exact .inl ((off b h1).trans (W.fresh b hb)))
  (λb hb=>have hb:s.heap.objs.size+2<=b:=hz▸hb
   (off b λq=>q.elim (λq=>HE.mpr (FN (by decide)) (q▸hb)) λq=>Kf _ (q▸hb)).trans (W.fresh b (DM (Ed _ _) hb)))
  (λq hq=>if_neg hq) (λe=>absurd e hnp) (e1▸e2)
  (λV=>⟨s.heap.objs.size,_,λ_=>none,e1▸hget,rfl,λcd h=>(nomatch (show Data.plain=.cls cd from h)),rfl,if_pos (.inl rfl),e1▸D1 (D6 _),Heap.Ns1.of_empty ⟨_,#[],_,hgd,rfl,λe he=>absurd he (by simp),λ_=>rfl⟩,
   λx v hx=>(nomatch hx),λx v hx=>(nomatch hx),λy pv hy=>(nomatch hy),Within.nil⟩) rfl rfl
 exact ⟨L',R.1,R.2,congrArg _ e1.symm,e1▸e2⟩
theorem Bu(G:Gd c){cl:Cl}{es:Es}(h:kQ c sc es)(hg:sc.lookup cl.gname=some .globalImplicit)(pf p:Pos):SE c sc (.new cl pf es p):=by
 intro A s σ L env ρ Q k hR W F hw;refine eV (cu G W F hg cl.gtab_of ?_);refine callWith_of (P:=λh=>∀b o,c.h₀.get? b=some o->h.get? b=some o) (by rw [(dA es env).2];rfl) (λh hk=>?_) (cw (DU (h A s σ L env ρ _ k hR W F hw) (λvs s₁ h₁=>?_) λ_ _ f=>f))
 · obtain ⟨kk,a,b⟩:=G.keep cl;exact ⟨kk,a,b.keeps hk⟩
 obtain ⟨_,Vs,σ1,L1,W1,X1,hvs,j,rfl,q,hq,hC⟩:=h₁;refine ⟨W1.keep,?_⟩;obtain ⟨nm,qn,N,bs,sn,sub,col,dd,k0,k1,k2,k3,k5,mN,hCl,hn,c1,c2,c3,c4,c5,c6⟩:=G.cls cl;obtain ⟨fd,hfd,_⟩:=G.fns cl.init;refine aZ (W1.make hq cl) λL2 W₂ X2 r₂=>?_;show wpAny _ _ (call (.ref cl.addr) ([] ++ vs) []) _ _ _;rw [LK];obtain ⟨h₁,g₁,d₁,t₁,os1⟩:=s₁;refine vR PySem.F.objNew (W1.keep _ _ hCl) (hn.keeps W1.keep) c4 (W1.keep _ _ hfd) rfl ?_;obtain ⟨w1,w2⟩:=vQ cl.addr vs;have hR':bl j (A.under (.builtin "type.__call__" ⟨.ref cl.addr::vs,[]⟩)):=by
  refine ⟨hR.1,?_,?_⟩
  · have:=hR.2.1;show A.depth+_+j+5 < _;rw [w1];omega
  · have:=hR.2.2;show A.units+_+8*j+60 < _;rw [w2];omega
 refine DU (hC (A.under (.builtin "type.__call__" ⟨.ref cl.addr::vs,[]⟩)) _ L2 (.ref (h₁.objs.size+1)::vs) hR' W₂ (ag.cons r₂ (hvs.mono X2.vm0))) (λr s₃ h₃=>?_) λ_ _ f=>f;obtain ⟨V,σ3,L3,W3,X3,hV,rfl,hQ⟩:=h₃;exact ⟨hV,.ref q,σ3,L3,W3,(X1.trans X2).trans X3,r₂.mono X3.vm0,hQ⟩
end
section
variable {c:Cx} {A:Em} {s:DA} {σ:aa} {L:ao} {env:Env} {sc:az} {ρ:af} {k:Nat}
theorem xP(G:Gd c){e:E}(he:SE c sc e)(hg:sc.lookup "isinstance" = some .globalImplicit)(hi:sc.lookup "int" = some .globalImplicit)(pf pi p:Pos):SE c sc (.isInt e pf pi p):=by
 intro A s σ L env ρ Q k hR W F hw;show wpAny _ _ (eval (.Call (.Name (Dy "isinstance") pf) [e.py,.Name (Dy "int") pi] [] p) env) _ _ _;rw [GD,fC];refine Dz (cu G W F hg (v:=.builtin "isinstance") (by decide) ?_);show wpAny _ _ (callWith p (.builtin "isinstance") [] [(false,eval e.py env),(false,eval (.Name (Dy "int") pi) env)] []) _ _ _;refine Ir rfl (LY ?_);refine Hn (he.use hR W F hw λV σ1 L1 v s₁ W1 X1 F1 hv hq=>Hn (cu G W1 F1 hi (v:=.type "int") (by decide) (IH ?_)));show wpAny _ _ (call (.builtin "isinstance") [v,.type "int"]) _ _ _;revert hv;refine hq.casesOn (λhq hv=>?_) (λhq hv=>?_) λhq hv=>?_
 · exact cX (v:=v) hv (IsiPair.NoneType_int (aq.trans X1 (aq.toks W1 _ vB hq)))
 · exact hv.intE λ_=>IsiPair.int_int (aq.trans X1 (aq.here W1 vB hq))
 · exact hv.strE λ_=>IsiPair.str_int (aq.trans X1 (aq.toks W1 _ vB hq))
theorem z3{e:E}(he:SE c sc e)(pre:String)(hl:(Dy pre).length < 100)(p1 p2 p:Pos):SE c sc (.fstr pre p1 e p2 p):=by
 intro A s σ L env ρ Q k hR W F hw;refine wpAny_JoinedStr ?_;show wpAny _ _ (eval (.Constant (.str (Dy pre)) 0 p1) env) _ _ _;refine I8 ⟨_,_,rfl,?_,?_⟩
 · have:Str.empty ++ Dy pre=Dy pre:=J4 rfl;rw [this,EP];exact D9 (DI hl (by decide))
 · have e1:Str.empty ++ Dy pre=Dy pre:=J4 rfl;rw [e1];show wpAny _ _ (eval (.FormattedValue e.py (-1) none p2) env) _ _ _;have W':=W.toks (s.toks+1) s.drawn;have X':=W.exToks (s.toks+1) s.drawn;refine wpAny_FormattedValue_plain (he.use hR W' (F.mono X') hw λV σ1 L1 v s₁ W1 X1 F1 hv hq=>?_);revert hv;exact hq.casesOn λhq hv=>hv.intE λt=>wpAny_formatField_int (lY hq.1) ⟨_,_,rfl,aV hq.2.1,aV hq.2.1,aq.trans X' (aq.trans X1 (aq.toks W1 _ vS hq.2.2))⟩
theorem xQ{a b:E}(ha:SE c sc a)(hb:SE c sc b)(p:Pos):SE c sc (.dict1 a b p):=by
 intro A s σ L env ρ Q k hR W F hw;refine wpAny_Dict_any (keys:=[some a.py]) (values:=[b.py]) rfl rfl (by simp) (by simp) ?_;have hk:∀q o,s.heap.get? q=some o->(s.heap.push {cls:=.type "dict",data:=.dict #[]}).get? q=some o:=λq o e=>DJ _ e;obtain ⟨W0,X₀⟩:=W.grow (s':={s with heap:=s.heap.push {cls:=.type "dict",data:=.dict #[]}}) (by simp) hk rfl rfl;have hD:(s.heap.push {cls:=.type "dict",data:=.dict #[]}).get? s.heap.objs.size=some {cls:=.type "dict",data:=.dict #[]}:=DZ _ rfl;have F0:=F.mono X₀;show wpAny _ _ (evalPairs [(eval a.py env,do let x ← eval b.py env;standAt p;pure x)]) _ _ _;refine Dz (ha.use hR W0 F0 hw λV σ1 L1 v s₁ W1 X1 F1 hv hq=>?_);refine Dz (D2 (Dz (hb.use hR W1 F1 hq λU σ2 L2 u s₂ W₂ X2 F2 hu hq2=>Dz (Fj (DE ?_)))));refine Dz (D2 (DE (DE ?_)));refine cj hq2 λhkey hdep hnew=>?_;have hDo:L.own s.heap.objs.size=none:=W.fresh _ (DQ _);have hDlt:s.heap.objs.size < (s.heap.push {cls:=.type "dict",data:=.dict #[]}).objs.size:=Ec hD;have hD1:=X1.keep _ _ id hDo hD;have hDo1:L1.own s.heap.objs.size=none:=(X1.own _ hDlt).trans hDo;have hD2:=X2.keep _ _ id hDo1 hD1;have hDo2:L2.own s.heap.objs.size=none:=(X2.own _ (Ec hD1)).trans hDo1;unfold storeAll;rw [Gv];refine Dz (Dz (i4 (c:=c) (L:=L2) (d:=[]) (x:=V) (y:=U) (by have:=hR.units;lia) hD2 rfl Fg ⟨hkey,hdep,λkv h=>(DX h).elim⟩ (by decide) (hv.mono X2.vm0) hu
  λh' tk es' n' hD' hs hr' hnd'=>DE ?_))
 show wpAny (model c.prog c.w) A (pure PUnit.unit) _ _ _;refine DE ?_;have hkD:∀b o,¬b=s.heap.objs.size->s₂.heap.get? b=some o->h'.get? b=some o:=λb o hb e=>(hs.2 b hb).trans e;refine cj (W₂.step (s':={s₂ with heap:=h',toks:=tk}) (B:=λb=>b=s.heap.objs.size) hkD (λb hb=>hb▸hDo2) (λb hb=>hb▸W.h0none W.size0) (λb its m hb e=>cE hD2 rfl (by decide) b _ hb e rfl) (Ee hs.1.symm) rfl rfl) λW3 X3 V3=>?_;refine aN (dY W3 hnew) λq hq hQ=>?_;have XX:Ex (λb=>s.heap.objs.size<=b) s {s₂ with heap:=h',toks:=tk} L L2:=((X₀.trans (X1.trans X2)).weak).trans (X3.wider λb hb=>by rw [hb];exact DQ _);exact (gj W3 W.size0 hD' (hr'.mono V3) hnd' XX hDo2 (DQ _) hq).casesOn λL3 W4 X4 _ _ r=>⟨.ref q,_,L3,W4,X4,r,hQ⟩
theorem i5{t:Tg}{o:Obj}{tk:Nat}{K:(aa->Prop)->List PV->aa->Prop}{chk:aa->Prop}{l:List PV}{St:Nat->ao->EI->Prop}{Mid:Nat->DF->ao->EI->Prop}(W:Wd c s σ L)(It:dU c t s.heap.objs.size (λb=>b=s.heap.objs.size) chk l St Mid)
 (hst:VM s {s with heap:=s.heap.push o,toks:=tk} L L->St 0 L (s.heap.push o)) (h:K chk l σ):dB c t s L K (.ref s.heap.objs.size) {s with heap:=s.heap.push o,toks:=tk}:=by
 have hz:(s.heap.push o).objs.size=s.heap.objs.size+1:=FD ..;have R:=W.grow (s':={s with heap:=s.heap.push o,toks:=tk}) (hz▸E6 _) (λq ob e=>DJ _ e) rfl rfl;have key:s.heap.objs.size<=s.heap.objs.size/\s.heap.objs.size < (s.heap.push o).objs.size/\L.own s.heap.objs.size=none:=⟨DQ _,hz▸D6 _,W.fresh _ (DQ _)⟩;exact ⟨_,_,_,_,_,_,σ,L,rfl,R.1,R.2,It,hst R.2.vm0,λb hb=>hb▸key,h⟩
theorem xR{t:Tg}{v:DF}{V:PV}{K:(aa->Prop)->List PV->aa->Prop}(W:Wd c s σ L)(hv:ak L s.heap V v)(h:gy σ (λchk l=>K chk l σ) V):wpAny (model c.prog c.w) A (pyIter v) (dB c t s L K) aY s:=by
 revert hv;refine h.casesOn (λhb h hv=>?_) (λhb h hv=>?_) λhp hb h hv=>?_
 · exact hv.tupE λa items n ha ho hl=>wpAny_pyIter_tuple ⟨_,ha,rfl,n,rfl⟩ (i5 (tk:=s.toks) W (dU.tuple ..) (λV=>⟨⟨_,DZ _ rfl,rfl,rfl⟩,items,n,DJ _ ha,ho,hl.mono V⟩) h)
 · exact hv.strE λu=>wpAny_pyIter_strU (i5 (tk:=s.toks) W (dU.str ..) (λV=>⟨_,DZ _ rfl,rfl,rfl⟩) h)
 · exact hv.refE λhown=>aZ (bN W hp) λitems hl hr hz=>G6 hl (i5 (tk:=s.toks) W (dU.list ..) (λV=>⟨⟨_,DZ _ rfl,rfl,rfl⟩,hown⟩) h)
theorem dB.trans{t:Tg}{K:(aa->Prop)->List PV->aa->Prop}{it:DF}{s₁ s':DA}{L1:ao}(X:Ex bZ s s₁ L L1)(h:dB c t s₁ L1 K it s'):dB c t s L K it s':=
 h.casesOn λI B chk l St Mid σ' L' h1 h2 h3 h4 h5 h6 h7=>⟨I,B,chk,l,St,Mid,σ',L',h1,h2,X.trans h3,h4,h5,λb hb=>⟨DM X.size (h6 b hb).1,(h6 b hb).2⟩,h7⟩
theorem CG{e:E}(he:SE c sc e)(t:Tg):jA c sc (.e e) t:=by
 intro A s σ L env ρ K k hR W F hw;exact he.use hR W F hw λV σ1 L1 v s₁ W1 X1 F1 hv hq=>DU (xR W1 hv hq) (λit s₂ h₂=>dB.trans X1 h₂) λ_ _ f=>f
theorem ma{n:Int}:HP 0 n 1=n.toNat:=by unfold HP;simp;lia
theorem r0{n:Int}(h0:0<=n)(hn:n < 100000):Kq 0 n 1=true:=by
 have h1:∀i:Int,0<=i->i < 100000->IV i=true:=λi a b=>by unfold IV;simp;lia
 unfold Kq;rw [ma,Ge h0,h1 0 (by decide) (by decide),h1 n h0 hn,h1 1 (by decide) (by decide)];have e:n+(1 - 1)=n:=by lia
 simp [e,h1 n h0 hn]
theorem vT(G:Gd c){e:E}(he:SE c sc e)(hg:sc.lookup "range" = some .globalImplicit)(pf p:Pos)(t:Tg):jA c sc (.range pf e p) t:=by
 intro A s σ L env ρ K k hR W F hw;show wpAny _ _ (eval (.Call (.Name (Dy "range") pf) (Es.cons e .nil).py [] p) env) _ _ _;refine eV (cu G W F hg (v:=.type "range") (by decide) (gC (T:="range") (.inr rfl) (Hn (he.use hR W F hw λV σ1 L1 v s₁ W1 X1 F1 hv hq=>IH ?_))));revert hv;refine hq.casesOn λ{n} hq hv=>hv.intE λu=>call_range_1 ?_;have hr:IsRange (s₁.heap.push {cls:=.type "range",data:=.fields #[.int 0 s₁.toks,.int n u,.int 1 (s₁.toks+1)]}) s₁.heap.objs.size 0 n 1 s₁.toks u (s₁.toks+1):=DZ _ rfl;refine wpAny_pyIter_range hr (r0 hq.1 hq.2.1) ?_
 · have hk:∀q ob,s₁.heap.get? q=some ob->(s₁.heap.push {cls:=.type "range",data:=.fields #[.int 0 s₁.toks,.int n u,.int 1 (s₁.toks+1)]}).get? q=some ob:=λq ob e=>DJ _ e;have R:=W1.grow (s':={s₁ with heap:=s₁.heap.push {cls:=.type "range",data:=.fields #[.int 0 s₁.toks,.int n u,.int 1 (s₁.toks+1)]},toks:=s₁.toks+1+1}) (by rw [FD];exact E6 _) hk rfl rfl;exact dB.trans X1 (dB.trans R.2 (i5 (tk:=s₁.toks+1+1) R.1 (dU.range ..) (λ_=>by
    rw [show ((n.toNat:Int) - ((0:Nat):Int))=(HP 0 n 1:Int) by rw [ma];exact Int.sub_zero _];exact DZ _ rfl) hq.2.2))
theorem xS(G:Gd c){e:E}(he:SE c sc e)(hg:sc.lookup "enumerate" = some .globalImplicit)(pf p:Pos)(x:String)(px:Pos)(y:String)(py:Pos)(kk:Nat)(pp:Pos):jA c sc (.enum pf e p) (.pair x px y py kk pp):=by
 intro A s σ L env ρ K k hR W F hw;show wpAny _ _ (eval (.Call (.Name (Dy "enumerate") pf) (Es.cons e .nil).py [] p) env) _ _ _;refine eV (cu G W F hg (v:=.type "enumerate") (by decide) (gC (T:="enumerate") (.inr rfl) (Hn (he.use hR W F hw λV σ1 L1 v s₁ W1 X1 F1 hv hq=>IH ?_))));revert hv;refine hq.casesOn λ{q l} hp hb hq hv=>hv.refE λhown=>aZ (bN W1 hp) λitems hl hr hz=>?_;refine call_enumerate_list hl λh' he hit hsz hk=>K8 he ?_;have R:=W1.grow (s':={s₁ with heap:=h'}) (hsz▸Ed _ _) hk rfl rfl;have k2:s₁.heap.objs.size<=s₁.heap.objs.size/\s₁.heap.objs.size < h'.objs.size/\L1.own s₁.heap.objs.size=none:=⟨DQ _,by lia,W1.fresh _ (DQ _)⟩;have k1:s₁.heap.objs.size<=s₁.heap.objs.size+1/\s₁.heap.objs.size+1 < h'.objs.size/\L1.own (s₁.heap.objs.size+1)=none:=⟨E6 _,by lia,W1.fresh _ (E6 _)⟩;exact dB.trans X1 ⟨_,_,_,_,_,_,σ1,L1,rfl,R.1,R.2,dU.enum x px y py kk pp (s₁.heap.objs.size+1) s₁.heap.objs.size (λe=>absurd e (EY (D6 _))) q l,⟨_,he,hit,hown⟩,λb hb=>hb.elim (λe=>e▸k1) λe=>e▸k2,hq⟩
theorem aH.imp{Q Q':Bool->aa->Prop}{b:Bool}{s':DA}(h:aH c s L Q b s')(f:∀b σ,Q b σ->Q' b σ):aH c s L Q' b s':=by
 exact h.casesOn λσ' L' h1 h2 h3=>⟨σ',L',h1,h2,f _ _ h3⟩
theorem z4{t:T}(h:SV c sc t):vP c sc (.cons t .nil):=by
 intro op pos A s σ L env ρ Q k hR W F hw;show wpAny _ _ (boolOp pos op [eval t.py env]) _ _ _;refine DU (h A s σ L env ρ _ k hR W F hw) (λv s₁ h=>h.imp λb h=>⟨h.1,h.2.imp λb σ1 hq=>?_⟩) λ_ _ f=>f;cases op <;> cases b <;> exact hq
theorem xT{t t':T}{ts:Ts}(h:SV c sc t)(ht:vP c sc (.cons t' ts)):vP c sc (.cons t (.cons t' ts)):=by
 intro op pos A s σ L env ρ Q k hR W F hw;show wpAny _ _ (boolOp pos op (eval t.py env::eval t'.py env::evalEach ts.py env)) _ _ _;refine Dz (DU (h A s σ L env ρ _ k hR W F hw) (λv s₁ h=>h.elim λb h=>h.1▸?_) λ_ _ f=>f);refine Dz (Fj (Dz (D2 (FE (h.2.casesOn λσ1 L1 W1 X1 hq=>?_)))));cases op <;> cases b
 · exact DE ⟨false,rfl,σ1,L1,W1,X1,hq⟩
 · exact DU (ht .And pos A s₁ σ1 L1 env ρ _ k hR W1 (F.mono X1) hq) (λv s₂ h=>h.imp λb h=>⟨h.1,aH.trans X1 h.2⟩) λ_ _ f=>f
 · exact DU (ht .Or pos A s₁ σ1 L1 env ρ _ k hR W1 (F.mono X1) hq) (λv s₂ h=>h.imp λb h=>⟨h.1,aH.trans X1 h.2⟩) λ_ _ f=>f
 · exact DE ⟨true,rfl,σ1,L1,W1,X1,hq⟩
theorem z5{ts:Ts}(h:vP c sc ts)(op:BoolOp)(p:Pos):SV c sc (.bool op ts p):=by
 intro A s σ L env ρ Q k hR W F hw;show wpAny _ _ (eval (.BoolOp op ts.py p) env) _ _ _;rw [arm_eval_BoolOp];exact h op p A s σ L env ρ _ k hR W F hw
end
set_option backward.match.sparseCases true
inductive bx(c:Cx)(env:Env)(sc:az)(s:DA)(L:ao)(Q:af->aa->Prop)(s':DA):Prop
 | mk:∀ρ' σ' L',Wd c s' σ' L'->Ex (cF env) s s' L L'->VM s s' L L'->ax c env sc s' L' ρ'->Q ρ' σ'->bx c env sc s L Q s'
noncomputable def cQ(c:Cx)(env:Env)(sc:az)(s:DA)(L:ao)(Qn:af->aa->Prop)(Qr:PV->aa->Prop)(f:Flow)(s':DA):Prop:=match f with
 | .next=>bx c env sc s L Qn s'
 | .ret v=>∃V σ' L',Wd c s' σ' L'/\Ex (cF env) s s' L L'/\ak L' s'.heap V v/\Qr V σ'
 | _=>False
noncomputable def SA(c:Cx)(sc:az)(t:aT):Prop:=∀(A:Em) (s:DA) (σ:aa) (L:ao) (env:Env) (ρ:af) (k:Nat) (v:DF) (V:PV) (Q:af->aa->Prop),bl k A->Wd c s σ L->ax c env sc s L ρ->ak L s.heap V v->j6 (aj c) k t V ρ σ Q->
 wpAny (model c.prog c.w) A (assign t.py env v) (λ_ s'=>bx c env sc s L Q s') aY s
noncomputable def SS(c:Cx)(sc:az)(st:S):Prop:=∀(A:Em) (s:DA) (σ:aa) (L:ao) (env:Env) (ρ:af) (k:Nat) (Qn:af->aa->Prop) (Qr:PV->aa->Prop),bl k A->Wd c s σ L->ax c env sc s L ρ->C7 (aj c) k st ρ σ Qn Qr->
 wpAny (model c.prog c.w) A (exec st.py env) (cQ c env sc s L Qn Qr) aY s
noncomputable def mc(c:Cx)(sc:az)(ss:Ss):Prop:=∀(A:Em) (s:DA) (σ:aa) (L:ao) (env:Env) (ρ:af) (k:Nat) (Qn:af->aa->Prop) (Qr:PV->aa->Prop),bl k A->Wd c s σ L->ax c env sc s L ρ->eC (aj c) k ss ρ σ Qn Qr->
 wpAny (model c.prog c.w) A (execs ss.py env) (cQ c env sc s L Qn Qr) aY s
section
variable {c:Cx} {A:Em} {s:DA} {σ:aa} {L:ao} {env:Env} {sc:az} {ρ:af} {k:Nat}
theorem bx.trans{s₁ s':DA}{L1:ao}{Q:af->aa->Prop}(X:Ex (cF env) s s₁ L L1)(V:VM s s₁ L L1)(h:bx c env sc s₁ L1 Q s'):bx c env sc s L Q s':=by
 exact h.casesOn λρ' σ' L' h1 h2 h3 h4 h5=>⟨ρ',σ',L',h1,X.trans h2,V.trans h3,h4,h5⟩
theorem cQ.trans{s₁ s':DA}{L1:ao}{Qn:af->aa->Prop}{Qr:PV->aa->Prop}{f:Flow}(X:Ex (cF env) s s₁ L L1)(V:VM s s₁ L L1)(h:cQ c env sc s₁ L1 Qn Qr f s'):cQ c env sc s L Qn Qr f s':=by
 cases f with
 | next=>exact bx.trans X V h
 | ret v=>
  exact iX h λU σ' L' h1 h2 h3 h4=>⟨U,σ',L',h1,X.trans h2,h3,h4⟩
 | _=>exact h
theorem nr(x:String)(p:Pos)(hb:bU sc x=true):SA c sc (.name x p):=by
 intro A s σ L env ρ k v V Q hR W F hv hw;exact G7 (fj W F (cK hb) hv λs' W' X' V' F' _=>⟨_,σ,L,W',X'.wider λ_ q=>q.fra,V',F',hw⟩)
theorem z6(G:Gd c){e:E}(he:SE c sc e)(a:String)(p:Pos):SA c sc (.attr e a p):=by
 intro A s σ L env ρ k v V Q hR W F hv hw;show wpAny _ _ (assign (.Attribute e.py (Dy a) p) env v) _ _ _;rw [arm_assign_Attribute];refine Dz (D2 (he.use hR W F hw λO σ1 L1 ov s₁ W1 X1 F1 ho hq=>?_));revert ho;refine hq.casesOn λ{q cl fs} hp h1 h2 h3 ho=>ho.refE λ_=>?_;have fin:wpAny (model c.prog c.w) A (setAttr (.ref (L1.ad q)) (Dy a) v) (λ_ s'=>bx c env sc s L Q s') aY s₁:=tZ G W1 hp h1 h2 (hv.mono X1.vm0) λs' W' X'=>
  ⟨ρ,_,L1,W',(X1.trans X').weak,X1.vm0.trans X'.vm0,F1.mono X',h3⟩
 exact Dz (Fj (Dz (D2 (DU fin (λ_ s' h=>Kx h) λ_ _ f=>f))))
theorem Bv{e i:E}(he:SE c sc e)(hi:SE c sc i)(p:Pos):SA c sc (.sub e i p):=by
 intro A s σ L env ρ k v V Q hR W F hv hw;show wpAny _ _ (assign (.Subscript e.py i.py p) env v) _ _ _;rw [arm_assign_Subscript];refine Dz (D2 (he.use hR W F hw λO σ1 L1 ov s₁ W1 X1 F1 ho hq=>?_));refine Dz (D2 (hi.use hR W1 F1 hq λI σ2 L2 iv s₂ W₂ X2 F2 hiv hq2=>?_));have V2:=X1.vm0.trans X2.vm0;have fin:wpAny (model c.prog c.w) A (setItem ov iv v) (λ_ s'=>bx c env sc s L Q s') aY s₂:=ud W₂ hR.units (ho.mono X2.vm0) hiv (hv.mono V2) hq2 λs' σ' W' X' hk=>
  ⟨ρ,σ',L2,W',((X1.trans X2).trans X').weak,V2.trans X'.vm0,F2.mono X',hk⟩
 exact Dz (Fj (Dz (D2 (DU fin (λ_ s' h=>Kx h) λ_ _ f=>f))))
theorem aq.toS{Q:PV->aa->Prop}{v:DF}{s':DA}{Qn:af->aa->Prop}(h:aq c s L Q v s'):cQ c env sc s L Qn Q (.ret v) s':=by
 exact h.casesOn λV σ' L' h1 h2 h3 h4=>⟨V,σ',L',h1,h2.weak,h3,h4⟩
theorem Bw{e:E}(he:SE c sc e)(p:Pos):SS c sc (.ret e p):=by
 intro A s σ L env ρ k Qn Qr hR W F hw;exact wpAny_Return_some (DU (he A s σ L env ρ Qr k hR W F hw) (λv s' h=>aq.toS h) λ_ _ f=>f)
end
noncomputable def z7(e:Expr):Option Scope:=match e with
 | .ListComp _ _ s _ | .SetComp _ _ s _ | .DictComp _ _ _ s _=>some s
 | _=>none
noncomputable def dZ(e:Expr):Bool:=(z7 e).isNone
theorem lu{e:Expr}(h:dZ e=true)(t:Option Expr)(line:Nat)(env:Env):swapsWith e t line env=pure false:=by
 unfold swapsWith;split
 · rename_i h2;exact nomatch (ER.mp h).symm.trans h2
 · rfl
noncomputable def pI(e:Expr):Bool:=e.ctorIdx != (Expr.Tuple [] 0 ⟨0,0,0,0⟩).ctorIdx
theorem uu{e:Expr}(h:pI e=true)(ts:List Expr)(kt:Nat)(pt:Pos)(env:Env):swappedStores [.Tuple ts kt pt] e env=pure none:=by
 cases e with
 | Tuple _ _ _=>exact nomatch h
 | _=>rfl
theorem fo(t:aT)(v:Expr)(env:Env):swappedStores [t.py] v env=pure none:=by
 cases t <;> rfl
theorem kH(t:aT)(env:Env):(assignEach [t.py] env).map (·.2)=[assign t.py env]:=by
 cases t <;> rfl
theorem jh(env:Env):∀ts:List aT,assignEach (ts.map aT.py) env=ts.map λt=>(false,assign t.py env)
 | []=>rfl
 | t::ts=>by
  have ih:=jh env ts;cases t <;> (show (false,_)::assignEach (ts.map aT.py) env=_;rw [ih];rfl)
section
variable {c:Cx} {A:Em} {s:DA} {σ:aa} {L:ao} {env:Env} {sc scI:az} {ρ:af} {k:Nat}
theorem bx.weakE{s₁ s':DA}{L1:ao}{Q:af->aa->Prop}(X:Ex bZ s s₁ L L1)(h:bx c env sc s₁ L1 Q s'):bx c env sc s L Q s':=bx.trans X.weak X.vm0 h
theorem Bx{t:aT}{e:E}(ht:SA c sc t)(he:SE c sc e)(hn:dZ e.py=true)(p:Pos):SS c sc (.asg t e p):=by
 intro A s σ L env ρ k Qn Qr hR W F hw;refine IS ?_ (lu hn _ _ _) (fo t _ env);rw [kH];refine he.use hR W F hw λV σ1 L1 v s₁ W1 X1 F1 hv hq=>?_;show wpAny _ _ (assign t.py env v) _ _ _;exact DU (ht A s₁ σ1 L1 env ρ k v V _ hR W1 F1 hv hq) (λ_ s' h=>bx.weakE X1 h) λ_ _ f=>f
theorem ou{x:String}{px:Pos}{cenv:Env}{sc':az}{ρ0:af}{D:Ep}{o:PO}{s':DA}{σ':aa}{L':ao}{Qn:af->aa->Prop}(hb:bU sc x=true)(F:ax c env sc s L ρ)(W':Wd c s' σ' L')(F':ax c cenv sc' s' L' ρ0)(hC:s.heap.objs.size<=cenv.locals)(hne:D≠cenv.locals)(hnew:aQ σ' o λV σ=>Qn (ρ.put x V) σ)
 (ad:∀q,σ' q=none->j9 c s' s L L' D q (σ'.set q o)) :
 wpAny (model c.prog c.w) A (assign (.Name (Dy x) px) env (.ref D)) (λ_ s₄=>∃m,s₄.heap.Ns cenv.locals m/\∀h',Fp cenv.locals s₄.heap h'->bx c env sc s L Qn {s₄ with heap:=h'}) aY s':=by
 refine aN (dY W' hnew) λq hq hQ=>(ad q hq).casesOn λL3 W3 X3 V3 own3 r=>?_;refine G7 (fj W3 (F.mono X3) (cK hb) r λs₄ W4 X4 V4 F4 k₄=>?_);have f:=F'.fra cenv.locals (.inl rfl);have hnf:¬cF env cenv.locals:=λq=>absurd (F.fra _ q).lt (E2.mpr hC);refine F'.loc.imp λm hm=>⟨iW hm.1 λo es ep' ho rr=>⟨o,es,ep',k₄ _ o (λq=>hnf q.fra) ho,rr⟩,λh' hs'=>?_⟩;have hk:∀b o,¬b=cenv.locals->s₄.heap.get? b=some o->h'.get? b=some o:=λb o hb e=>(hs'.2 b hb).trans e;have hnt:∀its n,s₄.heap.get? cenv.locals≠some ⟨.type "tuple",none,.seq its n,#[]⟩:=λits n e=>tP hm.1 λo es ep' ho hd _=>
  nomatch (congrArg L9 (DN ((k₄ _ o (λq=>hnf q.fra) ho).symm.trans e))).symm.trans hd
 refine cj (W4.step (s':={s₄ with heap:=h'}) hk (λb hb=>hb▸(own3 _ hne.symm).trans f.own) (λb hb=>hb▸f.old) (λb its n hb=>hb▸hnt its n) (Ee hs'.1.symm) rfl rfl) λW5 X5 V5=>?_;have F5:ax c env sc {s₄ with heap:=h'} L3 (ρ.put x (.ref q)):=F4.mono' V5 X5.own (λo e=>hk _ o (λz=>hnf (z▸.inl rfl)) e) λy a hy o e=>hk a o (λz=>hnf (z▸.inr ⟨y,hy⟩)) e;exact ⟨_,_,L3,W5,⟨DM X3.size (DM X4.size X5.size),X3.own,λb o hX ho e=>hk b o (λz=>absurd (Ec e) (E2.mpr (z▸hC))) (k₄ b o (λz=>hX z.fra) (X3.keep b o id ho e)),X3.ad⟩,(X3.vm0.trans V4).trans V5,F5,hQ⟩
theorem qq{x:String}{px:Pos}{e:Expr}{line:Nat}(he:dZ e=false):swapsWith e (some (.Name (Dy x) px)) line env=pure false\/swapsWith e (some (.Name (Dy x) px)) line env=pure true:=by
 have key:∀b:Bool,(pure b:Sem Bool)=pure false\/(pure b:Sem Bool)=pure true:=λb=>b.casesOn (.inl rfl) (.inr rfl);unfold swapsWith;split
 · exact key _
 · exact .inl rfl
theorem qr{it:It}{t:Tg}{elt:E}{ifs:Ts}{p pe px:Pos}{x:String}(hb:bU sc x=true)(hit:jA c sc it t)(helt:SE c (relab sc scI) elt)(hifs:oh c (relab sc scI) ifs)(hchk:bw sc scI t=true) :
 SS c sc (.asg (.name x px) (.lcomp elt t it ifs scI pe) p):=by
 intro A s σ L env ρ k Qn Qr hR W F hw;rcases qq (env:=env) (x:=x) (px:=px) (line:=p.line) (e:=(E.lcomp elt t it ifs scI pe).py) rfl with hs | hs
 · have hw:=hw;refine IS ?_ hs (fo (.name x px) _ env);refine (qo hit helt hifs hchk).use hR W F hw λV σ1 L1 v s₁ W1 X1 F1 hv hq=>?_;show wpAny _ _ (assign (aT.name x px).py env v) _ _ _;exact DU (nr x px hb A s₁ σ1 L1 env ρ k v V _ hR W1 F1 hv hq) (λ_ s' h=>bx.weakE X1 h) λ_ _ f=>f
 · have hw:=hw;show wpAny _ _ (exec (.Assign [.Name (Dy x) px] (.ListComp elt.py [⟨t.py,it.py,ifs.py,0⟩] scI.py pe) p) env) _ _ _;have hs':swapsWith (.ListComp elt.py [⟨t.py,it.py,ifs.py,0⟩] scI.py pe) (some (.Name (Dy x) px)) p.line env=pure true:=hs;rw [J5 _ _ _ _ hs'];refine Dz (Fj (Dz ?_));show wpAny _ A (do let _ ← comprehension (.ListComp elt.py [⟨t.py,it.py,ifs.py,0⟩] scI.py pe) scI.py env _ (newList []) false (eval it.py env) (some (assign (.Name (Dy x) px) env))) _ _ s;refine Dz (DU (om (use:=some (assign (.Name (Dy x) px) env)) (QQ:=λ_ s'=>bx c env sc s L Qn s') hR hit helt hifs hchk W F _ hw λcenv D s' hr hD hC hne=>?_) (λ_ s' hq=>DE (DE hq)) λ_ _ f=>f);obtain ⟨_,acc,σ',L',ep,items,W',ha,hr2,F',X',hDo,hnew⟩:=hr;exact ou hb F W' F' hC hne hnew λq hq=>i3 W' W.size0 ha hr2 X' hDo hD hq
end
set_option backward.match.sparseCases false
section
variable {c:Cx} {A:Em} {s:DA} {σ:aa} {L:ao} {env:Env} {sc scI:az} {ρ:af} {k:Nat}
theorem qs{it:It}{t:Tg}{kx vx:E}{p pe px:Pos}{x:String}(hb:bU sc x=true)(hit:jA c sc it t)(hkx:SE c (relab sc scI) kx)(hvx:SE c (relab sc scI) vx)(hchk:bw sc scI t=true) :
 SS c sc (.asg (.name x px) (.dcomp kx vx t it scI pe) p):=by
 intro A s σ L env ρ k Qn Qr hR W F hw;rcases qq (env:=env) (x:=x) (px:=px) (line:=p.line) (e:=(E.dcomp kx vx t it scI pe).py) rfl with hs | hs
 · have hw:=hw;refine IS ?_ hs (fo (.name x px) _ env);refine (qp hit hkx hvx hchk).use hR W F hw λV σ1 L1 v s₁ W1 X1 F1 hv hq=>?_;show wpAny _ _ (assign (aT.name x px).py env v) _ _ _;exact DU (nr x px hb A s₁ σ1 L1 env ρ k v V _ hR W1 F1 hv hq) (λ_ s' h=>bx.weakE X1 h) λ_ _ f=>f
 · have hw:=hw;show wpAny _ _ (exec (.Assign [.Name (Dy x) px] (.DictComp kx.py vx.py [⟨t.py,it.py,[],0⟩] scI.py pe) p) env) _ _ _;have hs':swapsWith (.DictComp kx.py vx.py [⟨t.py,it.py,[],0⟩] scI.py pe) (some (.Name (Dy x) px)) p.line env=pure true:=hs;rw [J5 _ _ _ _ hs'];refine Dz (Fj (Dz ?_));show wpAny _ A (do let _ ← comprehension (.DictComp kx.py vx.py [⟨t.py,it.py,[],0⟩] scI.py pe) scI.py env _ newDict false (eval it.py env) (some (assign (.Name (Dy x) px) env))) _ _ s;refine Dz (DU (ot (use:=some (assign (.Name (Dy x) px) env)) (QQ:=λ_ s'=>bx c env sc s L Qn s') hR hit hkx hvx hchk W F _ hw λcenv D s' hr hD hC hne=>?_) (λ_ s' hq=>DE (DE hq)) λ_ _ f=>f);obtain ⟨_,acc,σ',L',ep,es,W',ha,hr2,hnd,F',X',hDo,hnew⟩:=hr;exact ou hb F W' F' hC hne hnew λq hq=>gj W' W.size0 ha hr2 hnd X' hDo hD hq
theorem z8{A:Em}(hR:bl k A){Q:af->aa->Prop}{ts:List aT}:∀{l:List PV} {vs:List DF} {s:DA} {σ:aa} {L:ao} {ρ:af},(∀t∈ts,SA c sc t)->l.length=ts.length->Wd c s σ L->ax c env sc s L ρ->ag L s.heap l vs->iM (aj c) k ts l ρ σ Q->
 wpAny (model c.prog c.w) A (assignInOrder (ts.map λt=>assign t.py env) vs) (λ_ s'=>bx c env sc s L Q s') aY s:=by
 induction ts with
 | nil=>
  intro l vs s σ L ρ _ hl W F hv hw;rw [GH.mp hl] at hv hw;exact ag.nilE (m:=λvs=>wpAny _ _ (assignInOrder [] vs) _ _ _) hv (DE ⟨ρ,σ,L,W,Ex.refl W,VM.refl s L,F,hw⟩)
 | cons t ts ih=>
  intro l vs s σ L ρ hS hl W F hv hw;cases l with
  | nil=>exact nomatch hl
  | cons x l=>
   refine hv.consE λv r h1 h2=>?_;refine Dz (m:=holding r (assign t.py env v)) (D2 (DU (hS t (.head _) A s σ L env ρ k v x _ hR W F h1 hw) (λ_ s₁ h₁=>?_) λ_ _ f=>f));exact h₁.casesOn λρ1 σ1 L1 W1 X1 V1 F1 hq=>DU (ih (λt h=>hS t (.tail _ h)) (Gj hl) W1 F1 (h2.mono V1) hq) (λ_ s₂ h₂=>bx.trans X1 V1 h₂) λ_ _ f=>f
theorem gV{ts:List aT}{kt:Nat}{pt:Pos}(hS:∀t∈ts,SA c sc t)(hR:bl k A)(W:Wd c s σ L)(F:ax c env sc s L ρ){v:DF}{V:PV}{l:List PV}{Q:af->aa->Prop}(hv:ak L s.heap V v)(hs:pG σ V=some l)(hl:l.length=ts.length)
 (hw:iM (aj c) k ts l ρ σ Q):wpAny (model c.prog c.w) A (assign (.Tuple (ts.map aT.py) kt pt) env v) (λ_ s'=>bx c env sc s L Q s') aY s:=by
 rw [Lr];refine Dz (Fj ?_);unfold unpack;have e2:(ts.map λt=>(false,assign t.py env)).findIdx? (·.1)=none:=Ho.mpr λx hx=>(DO.mp hx).elim λt e=>e.2▸rfl;rw [jh,Ea,e2,DD,← hl];refine Dz (D2 (fk hR.1 W hv hs λvs s₁ W1 X1 _ hr=>?_));exact DU (z8 hR hS hl W1 (F.mono X1) hr hw) (λ_ s₂ h₂=>bx.weakE X1 h₂) λ_ _ f=>f
theorem z9{ts:List aT}{e:E}(hS:∀t∈ts,SA c sc t)(he:SE c sc e)(hn:dZ e.py=true)(ht:pI e.py=true)(kt:Nat)(pt p:Pos):SS c sc (.asgs ts kt pt e p):=by
 intro A s σ L env ρ k Qn Qr hR W F hw;show wpAny _ _ (exec (.Assign [.Tuple (ts.map aT.py) kt pt] e.py p) env) _ _ _;refine Mz ?_ (show swapsWith e.py (some (.Tuple (ts.map aT.py) kt pt)) p.line env=pure false from lu hn _ _ _) (uu ht _ _ _ env);refine he.use hR W F hw λV σ1 L1 v s₁ W1 X1 F1 hv hq=>?_;exact hq.casesOn λl hs h=>DU (gV hS hR W1 F1 hv hs h.1 h.2) (λ_ s' h=>bx.weakE X1 h) λ_ _ f=>f
theorem Aa{e:E}(he:SE c sc e)(hn:dZ e.py=true)(p:Pos):SS c sc (.expr e p):=by
 intro A s σ L env ρ k Qn Qr hR W F hw;have hi:interactive env=false:=by unfold interactive;rw [F.kind];rfl
 refine wpAny_Expr_any (he.use hR W F hw λV σ1 L1 v s₁ W1 X1 F1 hv hq=>?_) hi (lu hn _ _ _);exact ⟨ρ,σ1,L1,W1,X1.weak,X1.vm0,F1,hq⟩
theorem By{t:T}{a b:Ss}(ht:ST c sc t)(ha:mc c sc a)(hb:mc c sc b)(p:Pos):SS c sc (.ite t a b p):=by
 intro A s σ L env ρ k Qn Qr hR W F hw;refine wpAny_If (DU (ht A s σ L env ρ _ k hR W F hw) (λr s₁ h₁=>?_) λ_ _ f=>f);refine h₁.casesOn λσ1 L1 W1 X1 hq=>?_;cases r with
 | true=>exact DU (ha A s₁ σ1 L1 env ρ k Qn Qr hR W1 (F.mono X1) hq) (λf s₂ h₂=>cQ.trans X1.weak X1.vm0 h₂) λ_ _ f=>f
 | false=>exact DU (hb A s₁ σ1 L1 env ρ k Qn Qr hR W1 (F.mono X1) hq) (λf s₂ h₂=>cQ.trans X1.weak X1.vm0 h₂) λ_ _ f=>f
theorem Ab:mc c sc .nil:=by
 intro A s σ L env ρ k Qn Qr hR W F hw;exact JY ⟨ρ,σ,L,W,Ex.refl W,VM.refl s L,F,hw⟩
theorem xU{st:S}{ss:Ss}(hst:SS c sc st)(hss:mc c sc ss):mc c sc (.cons st ss):=by
 intro A s σ L env ρ k Qn Qr hR W F hw;refine wpAny_execs_cons (DU (hst A s σ L env ρ k _ Qr hR W F hw) (λf s₁ h₁=>?_) λ_ _ f=>f);cases f with
 | next=>
  exact h₁.casesOn λρ1 σ1 L1 W1 X1 V1 F1 hq=>DU (hss A s₁ σ1 L1 env ρ1 k Qn Qr hR W1 F1 hq) (λf s₂ h₂=>cQ.trans X1 V1 h₂) λ_ _ f=>f
 | ret v=>exact h₁
 | _=>exact h₁.elim
inductive me(c:Cx)(sc:az)(t:T)(b:Ss)(s:DA)(L:ao)(env:Env)(k:Nat)(Qn:af->aa->Prop)(Qr:PV->aa->Prop)(n:Nat)(s':DA):Prop
 | mk:∀ρ' σ' L',Wd c s' σ' L'->Ex (cF env) s s' L L'->VM s s' L L'->ax c env sc s' L' ρ'->(j7 (λρ' σ' Q'=>kK (aj c) k t ρ' σ' Q') (λρ' σ' Qn' Qr'=>eC (aj c) k b ρ' σ' Qn' Qr') n ρ' σ' Qn Qr)->me c sc t b s L env k Qn Qr n s'
theorem xV{t:T}{b:Ss}(ht:ST c sc t)(hb:mc c sc b)(p:Pos):SS c sc (.while t b p):=by
 intro A s σ L env ρ k Qn Qr hR W F hw;refine hw.elim λn hw=>wpAny_While ?_;refine codeAny_whileLoop (R:=λr s'=>match r with | .ok f=>cQ c env sc s L Qn Qr f s' | .error e=>cameBackBy (model c.prog c.w) A env aY e s') (me c sc t b s L env k Qn Qr) ?_ n
  ⟨ρ,σ,L,W,Ex.refl W,VM.refl s L,F,hw⟩
 refine λn s₁ h=>h.casesOn λρ1 σ1 L1 W1 X1 V1 F1 hq=>?_;cases n with
 | zero=>exact hq.elim
 | succ n=>
  refine DU (ht A s₁ σ1 L1 env ρ1 _ k hR W1 F1 hq) (λr s₂ h₂=>?_) λ_ _ f=>f.elim;refine h₂.casesOn λσ2 L2 W₂ X2 hq=>?_;have F2:=F1.mono X2;have XX:=X1.trans X2.weak (X:=cF env);have VV:=V1.trans X2.vm0;cases r with
  | true=>
   refine DU (hb A s₂ σ2 L2 env ρ1 k _ Qr hR W₂ F2 hq) (λf s₃ h₃=>?_) λ_ _ f=>f.elim;cases f with
   | next=>
    exact h₃.casesOn λρ3 σ3 L3 W3 X3 V3 F3 hq3=>⟨n,D6 n,ρ3,σ3,L3,W3,XX.trans X3,VV.trans V3,F3,hq3⟩
   | ret v=>exact cQ.trans XX VV h₃
   | _=>exact h₃.elim
  | false=>
   exact JY (cQ.trans XX VV (show cQ c env sc s₂ L2 Qn Qr .next s₂ from ⟨ρ1,σ2,L2,W₂,Ex.refl W₂,VM.refl s₂ L2,F2,hq⟩))
noncomputable def aT.nm:aT->Option String
 | .name x _=>some x
 | _=>none
noncomputable def iy(es:Es):Bool:=!(es.py.all (constantsAlone 8))
theorem vU{α β:Type}{f:α->Option β}:∀{l:List α},(l.filterMap f).length=l.length->l.map f=(l.filterMap f).map some
 | [],_=>rfl
 | a::l,h=>by
  rw [Gh] at h ⊢;cases q:f a with
  | none=>
   rw [q] at h;exact absurd (GA f l) (by dsimp only at h;rw [h];exact Kf _)
  | some b=>
   rw [q] at h;rw [E1,q,vU (Gj h)];rfl
noncomputable def iO(env:Env)(line:Nat):aT->Option String
 | .name x p=>if (env.kindOf (Dy x) == some .local && p.line == line)=true then some x else none
 | _=>none
theorem jF{p:Prop}[Decidable p]{a b:Sem (Option (List Ek))}{R:List String->Prop}(ha:p->a=pure none)(hb:¬p->b=pure none\/∃xs,b=pure (some (xs.map Dy))/\R xs) :
 (if p then a else b)=pure none\/∃xs,(if p then a else b)=pure (some (xs.map Dy))/\R xs:=by
 by_cases h:p
 · rw [if_pos h];exact .inl (ha h)
 · rw [if_neg h];exact hb h
theorem ox{env:Env}{line:Nat}{t:aT}{x:String}(h:iO env line t=some x):t.nm=some x/\env.kindOf (Dy x)=some .local:=by
 cases t with
 | name y p=>
  have h:(if (env.kindOf (Dy y) == some .local && p.line == line)=true then some y else none)=some x:=h;by_cases q:(env.kindOf (Dy y) == some .local && p.line == line)=true
  · rw [if_pos q] at h;exact ⟨h,DN h▸beq_iff_eq.mp (DP.mp q).1⟩
  · rw [if_neg q] at h;exact nomatch h
 | _=>exact nomatch h
theorem Ac{p:Prop}[Decidable p]{α β:Type}{f:α->β}{x:α}:(if p then some (f x) else none)=(if p then some x else none).map f:=by
 by_cases h:p
 · rw [if_pos h,if_pos h];rfl
 · rw [if_neg h,if_neg h];rfl
theorem uv{env:Env}{line:Nat}{g:Expr->Option Ek}(hg:∀t:aT,g t.py=(iO env line t).map Dy)(ts:List aT):(ts.map aT.py).filterMap g=(ts.filterMap (iO env line)).map Dy:=by
 rw [KI,I9];exact congrArg (Mb · ts) (funext hg)
theorem sb{ts:List aT}{line:Nat}{g:Expr->Option Ek}(hg:∀t:aT,g t.py=(iO env line t).map Dy)(F:ax c env sc s L ρ)(h:¬((((ts.map aT.py).filterMap g).length != (ts.map aT.py).length) || (((ts.map aT.py).filterMap g).eraseDups.length != ((ts.map aT.py).filterMap g).length))=true) :
 ∃xs:List String,(pure (some ((ts.map aT.py).filterMap g)):Sem (Option (List Ek)))=pure (some (xs.map Dy))/\ts.map aT.nm=xs.map some/\(∀x∈xs,sc.lookup x=some .local):=by
 rw [uv hg] at h ⊢;have hlen:=(bne_eq_false_iff_eq.mp (Bool.or_eq_false_iff.mp (Bool.not_eq_true _▸h)).1).trans (DD ..);have hall:=vU ((DD ..).symm.trans hlen);refine ⟨_,rfl,hall▸El λt ht=>?_,λx hx=>?_⟩
 · have hm:iO env line t∈(ts.filterMap (iO env line)).map some:=hall▸DO.mpr ⟨t,ht,rfl⟩;exact (DO.mp hm).elim λx hx=>(ox hx.2.symm).1.trans hx.2
 · exact (HC.mp hx).elim λt h=>F.kindOf x▸(ox h.2).2
theorem sd{ts:List aT}{kt:Nat}{pt:Pos}{es:Es}{n:Nat}{pe:Pos}(hc:iy es=true)(F:ax c env sc s L ρ) :
 swappedStores [.Tuple (ts.map aT.py) kt pt] (E.tup es n pe).py env=pure none\/
  ∃xs:List String,swappedStores [.Tuple (ts.map aT.py) kt pt] (E.tup es n pe).py env=pure (some (xs.map Dy))/\ts.map aT.nm=xs.map some/\(∀x∈xs,sc.lookup x=some .local):=by
 delta swappedStores;dsimp only [E.py];refine jF (λ_=>rfl) λ_=>jF (λ_=>rfl) λ_=>jF (λ_=>rfl) λh=>jF (λ_=>rfl) λ_=>jF (λh5=>absurd hc (by rw [iy,h5];exact DY)) λ_=>.inr (sb (line:=((ts.map aT.py).head?.map (·.pos.line)).getD 0) (λt=>?_) F h);cases t with
 | name=>exact Ac
 | _=>rfl
theorem xW(ρ:af){x y:String}(h:x≠y)(a b:PV):(ρ.put x a).put y b=(ρ.put y b).put x a:=by
 funext z
 unfold af.put;by_cases e:z=y
 · rw [if_pos e,if_neg λq=>h (q.symm.trans e),if_pos e]
 · rw [if_neg e];by_cases q:z=x
   · rw [if_pos q,if_pos q]
   · rw [if_neg q,if_neg q,if_neg e]
noncomputable def nt:List String->List PV->af->af
 | x::xs,v::vs,ρ=>nt xs vs (ρ.put x v)
 | _,_,ρ=>ρ
theorem qt{x:String}{v:PV}:∀{xs:List String} {vs:List PV} {ρ:af},x∉xs->(nt xs vs ρ).put x v=nt xs vs (ρ.put x v)
 | [],_,_,_=>by rfl
 | _::_,[],_,_=>by rfl
 | y::ys,u::us,ρ,h=>(qt λq=>h (.tail _ q)).trans (congrArg _ (xW ρ (λ(e:y=x)=>h (e▸.head _)) u v))
theorem uw{x:String}{v:DF}{V:PV}{Q:Unit->DA->Prop}(W:Wd c s σ L)(F:ax c env sc s L ρ)(hx:sc.lookup x=some .local)(hv:ak L s.heap V v)
 (hQ:∀s',Wd c s' σ L->Ex (cF env) s s' L L->VM s s' L L->ax c env sc s' L (ρ.put x V)->Q () s'):wpAny (model c.prog c.w) A (bindName env (Dy x) v) Q aY s:=
 wpAny_bindName (fj W F (.inl hx) hv λs' W' X' V' F' _=>hQ s' W' (X'.wider λ_ q=>q.fra) V' F')
theorem sJ:∀{ts:List aT} {xs:List String},ts.map aT.nm=xs.map some->ts.filterMap aT.nm=xs
 | [],[],_=>rfl
 | [],_::_,h=>(Gp _ _ h.symm).elim
 | _::_,[],h=>(Gp _ _ h).elim
 | t::ts,x::xs,h=>by rw [Gh,(ES h).1,sJ (ES h).2]
noncomputable def kc(M:HK)(A:Em):List (DF->Sem Unit)->List DF->DA->(Unit->DA->Prop)->Prop
 | f::fs,u::us,s,Q=>wpAny M A (f u) (λ_ s₁=>kc M A fs us s₁ Q) aY s
 | _,_,s,Q=>Q () s
theorem vV{A:Em}{M:HK}{Q:Unit->DA->Prop}:∀{fs:List (DF->Sem Unit)} {us:List DF} {s:DA},kc M A fs us s Q->wpAny M A (assignInOrder fs us) Q aY s
 | [],_,_,h=>DE (by exact h)
 | _::_,[],_,h=>DE h
 | f::fs,u::us,_,h=>Dz (m:=holding us (f u)) (D2 (DU h (λ_ _ h=>vV h) λ_ _ f=>f))
theorem xX{A:Em}{M:HK}{g:DF->Sem Unit}{u:DF}{Q:Unit->DA->Prop}{fs:List (DF->Sem Unit)}:∀{us:List DF} {s:DA},us.length=fs.length->kc M A fs us s (λ_ s₁=>wpAny M A (g u) Q aY s₁)->kc M A (fs ++ [g]) (us ++ [u]) s Q:=by
 induction fs with
 | nil=>
  intro us s hl h;rw [GH.mp hl] at h ⊢;exact h
 | cons f fs ih=>
  intro us s hl h;cases us with
  | nil=>exact nomatch hl
  | cons v us=>exact DU (M:=M) (A:=A) h (λ_ _ h=>ih (Gj hl) h) λ_ _ f=>f
theorem Bz{A:Em}{xs:List String}:∀{l:List PV} {vs:List DF} {ρ:af} {Q:Unit->DA->Prop},l.length=xs.length->xs.Nodup->(∀x∈xs,sc.lookup x=some .local)->Wd c s σ L->ax c env sc s L ρ->ag L s.heap l vs->
 (∀s',Wd c s' σ L->Ex (cF env) s s' L L->VM s s' L L->ax c env sc s' L (nt xs l ρ)->Q () s')->
 kc (model c.prog c.w) A ((xs.map Dy).reverse.map λn=>bindName env n) vs.reverse s Q:=by
 induction xs with
 | nil=>
  intro l vs ρ Q hl _ _ W F hv hQ;rw [GH.mp hl] at hv hQ;exact ag.nilE (m:=λvs=>kc _ _ [] vs.reverse _ _) hv (hQ s W (Ex.refl W) (VM.refl s L) F)
 | cons x xs ih=>
  intro l vs ρ Q hl hn hx W F hv hQ;cases l with
  | nil=>exact nomatch hl
  | cons u l=>
   refine hv.consE λv r h1 h2=>?_;have hxn:=EO.mp hn;rw [E1,Ld,D4,Ld];refine xX (by rw [Kr,DD,Kr,DD,h2.length,Gj hl]) ?_;refine ih (Gj hl) hxn.2 (λy hy=>hx y (.tail _ hy)) W F h2 λs₁ W1 X1 V1 F1=>?_;exact uw W1 F1 (hx x (.head _)) (h1.mono V1) λs₂ W₂ X2 V2 F2=>hQ s₂ W₂ (X1.trans X2) (V1.trans V2) (qt hxn.1▸F2)
theorem Ad{t:aT}{x:String}(h:t.nm=some x):∃p,t=.name x p:=by
 cases t with
 | name y p=>exact ⟨p,congrArg (aT.name · p) (DN h)⟩
 | attr _ _ _=>exact nomatch h
 | sub _ _ _=>exact nomatch h
theorem vW{C:CP}{Q:af->aa->Prop}{ts:List aT}:∀{xs:List String} {l:List PV} {ρ:af},ts.map aT.nm=xs.map some->l.length=ts.length->iM C k ts l ρ σ Q->Q (nt xs l ρ) σ:=by
 induction ts with
 | nil=>
  intro xs l ρ e hl h;rw [GH.mp hl] at h ⊢;rw [Gf.mp e.symm];exact h
 | cons t ts ih=>
  intro xs l ρ e hl h;cases l with
  | nil=>exact nomatch hl
  | cons v l=>
   cases xs with
   | nil=>exact (Gp _ _ e).elim
   | cons x xs=>
    refine (Ad (ES e).1).elim λp ht=>?_;rw [ht] at h;show Q (nt xs l (ρ.put x v)) σ;exact ih (ES e).2 (Gj hl) h
theorem se{ts:List aT}{es:Es}{n:Nat}{pe:Pos}(hS:∀t∈ts,SA c sc t)(he:SE c sc (.tup es n pe))(hc:iy es=true)(hd:(ts.filterMap aT.nm).Nodup)(kt:Nat)(pt p:Pos):SS c sc (.asgs ts kt pt (.tup es n pe) p):=by
 intro A s σ L env ρ k Qn Qr hR W F hw;have hw:a8 (aj c) k (.tup es n pe) ρ σ (λv σ1=>Ev (pG σ1 v) λl=>l.length=ts.length/\iM (aj c) k ts l ρ σ1 Qn):=hw;show wpAny _ _ (exec (.Assign [.Tuple (ts.map aT.py) kt pt] (E.tup es n pe).py p) env) _ _ _;rcases sd (ts:=ts) (kt:=kt) (pt:=pt) (n:=n) (pe:=pe) hc F with hsw | ⟨xs,hsw,hnm,hloc⟩
 · refine Mz ?_ rfl hsw;exact he.use hR W F hw λV σ1 L1 v s₁ W1 X1 F1 hv hq=>hq.casesOn λl hs h=>DU (gV hS hR W1 F1 hv hs h.1 h.2) (λ_ s' h=>bx.weakE X1 h) λ_ _ f=>f
 · refine Assign_Tuple_swapped (names:=xs.map Dy) ?_ rfl hsw;refine he.use hR W F hw λV σ1 L1 v s₁ W1 X1 F1 hv hq=>hq.casesOn λl hs h=>?_;have hl:l.length=xs.length:=by rw [h.1,← DD (f:=aT.nm),hnm,DD]
   have hx:ts.filterMap aT.nm=xs:=sJ hnm;rw [DD,← hl];refine fk hR.1 W1 hv hs λvs s₂ W₂ X2 _ hr=>?_;have X12:=X1.trans X2;exact vV <| Bz hl (hx▸hd) hloc W₂ (F1.mono X2) hr λs' W' X' V' F'=>⟨_,_,_,W',X12.weak.trans X',X12.vm0.trans V',F',vW hnm h.1 h.2⟩
end
section
variable {c:Cx} {A:Em} {s:DA} {σ:aa} {L:ao} {env:Env} {sc scI:az} {ρ:af} {k:Nat}
theorem Ex.narrow{X Y:Ep->Prop}{s s':DA}{L L':ao}(a:Ex X s s' L L')(h:∀b,b < s.heap.objs.size->X b->Y b):Ex Y s s' L L':=
 ⟨a.size,a.own,λb o hb ho e=>a.keep b o (λq=>hb (h b (Ec e) q)) ho e,a.ad⟩
inductive ux(c:Cx)(env:Env)(sc:az)(s:DA)(L:ao)(B:Ep->Prop)(chk:aa->Prop)(t:Tg)(b:Ss)(k:Nat)(Qn:af->aa->Prop)(Qr:PV->aa->Prop)(l:List PV)(St:Nat->ao->EI->Prop)(z:Nat)(n:Nat)(s':DA):Prop
 | mk:∀i ρ' σ' L',n+i=l.length->Wd c s' σ' L'->St i L' s'.heap->ax c env sc s' L' ρ'->(Ex (λq=>cF env q\/s.heap.objs.size<=q) s s' L L')->VM s s' L L'->(∀q,B q->L'.own q=none)->z<=s'.heap.objs.size->(gi chk t (λρ' σ' Qn' Qr'=>eC (aj c) k b ρ' σ' Qn' Qr') (l.drop i) ρ' σ' Qn Qr)->ux c env sc s L B chk t b k Qn Qr l St z n s'
noncomputable def zg(c:Cx)(env:Env)(sc:az)(s:DA)(L:ao)(Qn:af->aa->Prop)(Qr:PV->aa->Prop)(I:Nat->DA->Prop)(n:Nat)(f:Flow)(s':DA):Prop:=match f with
 | .next=>∃m,m < n/\I m s'
 | .ret v=>cQ c env sc s L Qn Qr (.ret v) s'
 | _=>False
theorem BA{t:Tg}{it:It}{b:Ss}(hit:jA c sc it t)(hb:mc c sc b)(ht:t.ok sc=true)(p:Pos):SS c sc (.for t it b p):=by
 intro A s σ L env ρ k Qn Qr hR W F hw;have hh:=hR.1;refine wpAny_For (DU (hit A s σ L env ρ _ k hR W F hw) (λx s₁ h₁=>DU h₁ (λitv s₂ h₂=>h₂.casesOn λI B chk l St Mid σ2 L2 eI W₂ X2 It hst hB hwf=>eI▸?_) λ_ _ f=>f) λ_ _ f=>f) (λx=>jD it env x);have F2:=F.mono X2;have hBF:∀q,B q->c.h₀.get? q=none/\¬cF env q:=λq hq=>⟨W.h0none (DM W.size0 (hB q hq).1),λz=>absurd (F.fra q z).lt (E2.mpr (hB q hq).1)⟩;refine codeAny_forLoop_any (R:=λr s'=>match r with | .ok f=>cQ c env sc s L Qn Qr f s' | .error e=>cameBackBy (model c.prog c.w) A env aY e s')
  (ux c env sc s L B chk t b k Qn Qr l St s₂.heap.objs.size) ?_ l.length ⟨0,ρ,σ2,L2,rfl,W₂,hst,F2,X2.weak,X2.vm0,λq hq=>(hB q hq).2.2,DQ _,hwf⟩
 have hBl:∀q,B q->q < s₂.heap.objs.size:=λq hq=>(hB q hq).2.1;have hBs:∀q,B q->s.heap.objs.size<=q:=λq hq=>(hB q hq).1;clear hst hwf;refine λn s₃ h=>h.casesOn λi ρ3 σ3 L3 hn W3 hst F3 X3 V3 hBo hz hwf=>?_;rcases FP i l.length with hi | hi
 · have hx:l[i]? = some l[i]:=DW hi;rw [Gs hi] at hwf;refine hwf.consE λhc ρ' hbd hwf=>?_;refine DU (jy (Post:=λs₄=>wpAny (model c.prog c.w) A (execs b.py env) (zg c env sc s L Qn Qr (ux c env sc s L B chk t b k Qn Qr l St s₂.heap.objs.size) n) qm s₄)
    (N:=λr s₄=>match r with | none=>False | some v=>wpAny (model c.prog c.w) A (letOwnedTupleGo t.py (.ref I) v) (λ_ s1'=>wpAny (model c.prog c.w) A (assign t.py env v) (λ_ s2'=>wpAny (model c.prog c.w) A (execs b.py env) (zg c env sc s L Qn Qr (ux c env sc s L B chk t b k Qn Qr l St s₂.heap.objs.size) n) qm s2') qm s1') qm s₄)
    hh It W3 F3 (λq hq=>⟨hBo q hq,(hBF q hq).1,(hBF q hq).2⟩) hc hst hx ht hbd (λv s₁ h₁=>h₁) λs₄ W4 X4 V4 k₄ F4 hst₄=>?_) (λr s₄ h₄=>?_) λ_ _ f=>f.elim
   ·
    have X34:Ex (λq=>cF env q\/s.heap.objs.size<=q) s s₄ L L3:=X3.trans (X4.wider λq hq=>hq.elim (λhq=>.inr (hBs q hq)) λhq=>.inl hq.fra);refine DU (hb A s₄ σ3 L3 env ρ' k _ Qr hR W4 F4 hwf) (λf s₅ h₅=>?_) λ_ _ f=>f.elim;cases f with
    | next=>
     refine h₅.casesOn λρ5 σ5 L5 W5 X5 V5 F5 hq=>?_;have hz4:s₂.heap.objs.size<=s₄.heap.objs.size:=DM hz X4.size;refine ⟨n - 1,by lia,i+1,ρ5,σ5,L5,by lia,W5,?_,F5,X34.trans (X5.wider λq hq=>.inl hq),(V3.trans V4).trans V5,λq hq=>?_,DM hz4 X5.size,hq⟩
     · exact It.keep _ _ _ _ _ hst₄ V5 λq o hq e=>X5.keep q o (hBF q hq).2 (hBo q hq) e
     · exact (X5.own q (DI (hBl q hq) hz4)).trans (hBo q hq)
    | ret v=>
     refine iX h₅ λU σ5 L5 W5 X5 hv hq=>?_;exact ⟨U,σ5,L5,W5,(X34.trans (X5.wider λq hq=>.inl hq)).narrow λq hlt hq=>hq.elim id λhq=>absurd hlt (E2.mpr hq),hv,hq⟩
    | _=>exact h₅.elim
   · cases r with
     | none=>exact h₄.elim
     | some v=>
      refine DU h₄ (λ_ s₅ h₅=>DU h₅ (λ_ s₆ h₆=>DU h₆ (λf s7 h₇=>?_) λ_ _ f=>f.elim) λ_ _ f=>f.elim) λ_ _ f=>f.elim;cases f with
      | next=>exact h₇
      | ret v=>exact h₇
      | _=>exact h₇.elim
 · rw [GP hi] at hwf;rw [show i=l.length by lia] at hst;refine It.done A s₃ σ3 L3 _ _ hh W3 hBo hwf.1 hst λh' tk hk hz'=>?_;have hpt:∀q items n,B q->s₃.heap.get? q≠some ⟨.type "tuple",none,.seq items n,#[]⟩:=λq items n hq e=>It.pt _ L3 s₃.heap hst q _ hq e rfl;refine cj (W3.step (s':={s₃ with heap:=h',toks:=tk}) hk hBo (λq hq=>(hBF q hq).1) hpt hz' rfl rfl) λW4 X4 V4=>?_;have F4:ax c env sc {s₃ with heap:=h',toks:=tk} L3 ρ3:=F3.mono' V4 X4.own (λo e=>hk _ o (λq=>(hBF _ q).2 (.inl rfl)) e) λy a hy o e=>hk a o (λq=>(hBF a q).2 (.inr ⟨y,hy⟩)) e;refine JY ?_;show cQ c env sc s L Qn Qr .next _;refine ⟨ρ3,σ3,L3,W4,?_,V3.trans V4,F4,hwf.2⟩;exact (X3.trans (X4.wider λq hq=>.inr (hBs q hq))).narrow λq hlt hq=>hq.elim id λhq=>absurd hlt (E2.mpr hq)
end
theorem gW{α:Type}:∀(ns:List Ek) (vs:List α),ns.length=vs.length->∀n∈ns,∃v,(ns.zip vs).lookup n=some v
 | [],_,_,_,h=>(DX h).elim
 | x::xs,[],h,_,_=>nomatch h
 | x::xs,v::vs,h,n,hn=>by
  rw [Ja,ET];cases e:n == x with
  | true=>exact ⟨v,rfl⟩
  | false=>exact gW xs vs (Gj h) n ((D5.mp hn).resolve_left λq=>beq_eq_false_iff_ne.mp e q)
theorem qu{α β:Type}{f g:α->Option β}:∀{l:List α},(∀x∈l,f x=g x)->l.filterMap f=l.filterMap g
 | [],_=>rfl
 | a::l,h=>by rw [Gh,Gh,h a (.head _),qu λx hx=>h x (.tail _ hx)]
theorem ji{α:Type}:∀(ns:List Ek) (vs:List α),ns.length=vs.length->ns.Nodup->(ns.filterMap λn=>((ns.zip vs).lookup n).map (n,·))=ns.zip vs
 | [],[],_,_=>rfl
 | [],_::_,h,_=>nomatch h
 | x::xs,[],h,_=>nomatch h
 | x::xs,v::vs,h,hn=>by
  rw [Gh,Ja,show ((x,v)::xs.zip vs).lookup x=some v by rw [ET,beq_self_eq_true]];refine congrArg _ (Eq.trans (qu λn hx=>?_) (ji xs vs (Gj h) (EO.mp hn).2));rw [ET,beq_eq_false_iff_ne.mpr λ(e:n=x)=>(EO.mp hn).1 (e▸hx)]
theorem xY{α:Type}{M:HK}{A:Em}{E:DF->DA->Prop}{Q:α->DA->Prop}{s:DA}{c:Prop}[Decidable c]{x y:Sem α}(h:¬c)(k:wpAny M A y Q E s):wpAny M A (if c then x else y) Q E s:=by rw [if_neg h];exact k
theorem sL{β:Type}{M:HK}{A:Em}{E:DF->DA->Prop}{Q:β->DA->Prop}{s:DA}{γ:Type}{l:List γ}{b:β}{f:γ->β->Sem (ForInStep β)}(h:l=[])(k:Q b s):wpAny M A (forIn l b f) Q E s:=by
 rw [h];exact DE k
theorem mf{fd:MT}{names:List Ek}{vs:List DF}(h1:fd.params.posonlyargs=[])(h2:fd.params.args.map (·.arg)=names)(h3:fd.params.vararg=none)(h4:fd.params.kwonlyargs=[])(h5:fd.params.kwarg=none)
 (h6:fd.defaults=.none) (hl:names.length=vs.length) (hn:names.Nodup) {M:HK} {A:Em} {Er:DF->DA->Prop} {s:DA} {Q:List (Ek×DF)->DA->Prop} (hQ:Q (names.zip vs) s):wpAny M A (bindArgs fd ⟨vs,[]⟩) Q Er s:=by
 have e3:∀k,LA (λn=>(IF n (names.zip vs)).isNone) (List.take k names)=[]:=λk=>by
  refine HW.mpr λn hx=>(gW names vs hl n (List.mem_of_mem_take hx)).elim λv hv=>?_;rw [hv];exact EU
 obtain ⟨nm,qn,⟨po,ar,va,ko,kd,kw,df⟩,bd,sc,gl,cl,de,kwd,dc,pm,an,co,ct,bu⟩:=fd;dsimp only at h1 h2 h3 h4 h5 h6;subst h1 h3 h4 h5 h6 h2;refine Dz (DE (Dz (DE ?_)));refine xY (by simp [hl]) (xY (λh=>?_) ?_)
 · exact EU ((Iu.mpr (e3 _)).symm.trans ((Ic _).mp h))
 refine Dz (sL (by simp) (Dz (sL rfl (xY (by simp) (DE ?_)))));show Q (Mb (λn=>Mc (λx=>(n,x)) (IF n ((Jb (λx=>x.arg) ar).zip vs))) (Jb (λx=>x.arg) ar ++ [])) s;rw [Eg,ji _ vs hl hn];exact hQ
noncomputable def af.args:List String->List PV->af
 | x::xs,v::vs=>(af.args xs vs).put x v
 | _,_=>λ_=>none
theorem kT{kindOf:Ek->Option Hb}{n:Ek}:∀(bs:List (Ek×DF)) (m:Ek->Option DF),n∉bs.map (·.1)->bindL kindOf bs m n=m n
 | [],_,_=>rfl
 | (k,v)::r,m,h=>by
  rw [E1,D5] at h;unfold bindL;rw [kT r _ (λq=>h (.inr q))];by_cases e:kindOf k=some .local
  · rw [if_pos e,if_neg λq=>h (.inl q)]
  · rw [if_neg e]
theorem kU{kindOf:Ek->Option Hb}{n:Ek}:∀(bs:List (Ek×DF)) (m:Ek->Option DF),n∉bs.map (·.1)->bindC kindOf bs m n=m n
 | [],_,_=>rfl
 | (k,v)::r,m,h=>by
  rw [E1,D5] at h;unfold bindC;rw [kU r _ (λq=>h (.inr q))];by_cases e:kindOf k=some .local
  · rw [if_pos e]
  · rw [if_neg e,if_neg λq=>h (.inl q)]
theorem nu{ps:List String}(h:ps.Nodup):(ps.map Dy).Nodup:=by
 refine E5.mpr (h.imp λhne e=>hne (Str.ofString_inj.mp e))
theorem sf{ps:List Ek}{vs:List DF}{n:Ek}(h:n∈(ps.zip vs).map (·.1)):n∈ps:=by
 exact (DO.mp h).elim λx e=>e.2▸(Hx (a:=x.1) (b:=x.2) e.1).1
inductive vX(kindOf:Ek->Option Hb)(L:ao)(h:EI)(b:List (Ek×DF))(m cm:Ek->Option DF)(x:String)(V:PV):Prop
 | mk (pv):ak L h V pv->(kindOf (Dy x)=some .local->bindL kindOf b m (Dy x)=some pv)->(kindOf (Dy x)≠some .local->bindC kindOf b cm (Dy x)=some pv)->vX kindOf L h b m cm x V
theorem oy{p:String}{ps:List String}{args:List PV}{x:String}{V:PV}(h:af.args (p::ps) args x=some V){G:Prop}(k:∀a r,args=a::r->(if x=p then some a else af.args ps r x)=some V->G):G:=by
 cases args with
 | nil=>exact nomatch h
 | cons a r=>exact k a r rfl h
theorem uy{kindOf:Ek->Option Hb}{L:ao}{h:EI}{ps:List String}:∀{args:List PV} {vs:List DF},ps.Nodup->ag L h args vs->∀(m cm:Ek->Option DF) (x:String) (V:PV),af.args ps args x=some V->
 vX kindOf L h ((ps.map Dy).zip vs) m cm x V:=by
 induction ps with
 | nil=>intro args vs _ _ m cm x V hx;exact nomatch (by exact hx:none=some V)
 | cons p ps ih=>
  intro args vs hn hv m cm x V hx;refine oy hx λa args e hx=>?_;rw [e] at hv;refine hv.consE λv r h1 h2=>?_;by_cases e:x=p
  · rw [if_pos e] at hx;have hnot:Dy x∉(((ps.map Dy).zip r).map (·.1)):=λq=>(DO.mp (sf q)).elim λy hy=>(EO.mp hn).1 (e▸Str.ofString_inj.mp hy.2▸hy.1);rw [← e];refine ⟨v,DN hx▸h1,λhk=>?_,λhk=>?_⟩
    · show bindL kindOf ((Dy x,v)::(ps.map Dy).zip r) m (Dy x)=_;unfold bindL;rw [kT _ _ hnot,if_pos hk,if_pos rfl]
    · show bindC kindOf ((Dy x,v)::(ps.map Dy).zip r) cm (Dy x)=_;unfold bindC;rw [kU _ _ hnot,if_neg hk,if_pos rfl]
  · rw [if_neg e] at hx;exact (ih (EO.mp hn).2 h2 (if kindOf (Dy p)=some .local then λy=>if y=Dy p then some v else m y else m) (if kindOf (Dy p)=some .local then cm else λy=>if y=Dy p then some v else cm y) x V hx).casesOn λpv g1 g2 g3=>⟨pv,g1,g2,g3⟩
theorem fW:∀(names:List (Ek×Hb)) (n:Nat) (acc:List (Ek×Ep)) (x:Ek),((x,Js)∈names\/∃a,acc.lookup x=some a)->∃a,(cellsFrom n names acc).lookup x=some a
 | [],n,acc,x,h=>h.resolve_left DX
 | (y,k)::r,n,acc,x,h=>by
  unfold cellsFrom;split
  · refine fW r _ _ x ?_;cases e:x == y with
    | true=>exact .inr ⟨n,by rw [ET,e]⟩
    | false=>exact h.imp (λh=>(D5.mp h).resolve_left λq=>beq_eq_false_iff_ne.mp e (E0 q).1) λh=>h.imp λa q=>by rw [ET,e];exact q
  · rename_i hk;exact fW r _ _ x (h.imp_left λh=>(D5.mp h).resolve_left λq=>hk (beq_iff_eq.mpr (E0 q).2.symm))
theorem xZ{ps:List String}:∀{args:List PV} {x:String} {V:PV},af.args ps args x=some V->x∈ps:=by
 induction ps with
 | nil=>intro args x V h;exact nomatch (by exact h:none=some V)
 | cons p ps ih=>
  intro args x V h;refine oy h λa r _ h=>?_;by_cases e:x=p
  · exact e▸.head _
  · rw [if_neg e] at h;exact .tail _ (ih h)
section
variable {c:Cx} {k:Nat}
theorem vY(G:Gd c)(f:Fn)(hb:mc c f.sco (dk f))(hp:f.params.Nodup)(hsc:∀x∈f.params,bU f.sco x=true){args:List PV}{σ:aa}{Q:PV->aa->Prop}(hl:args.length=f.params.length)
 (h:eC (aj c) k (dk f) (af.args f.params args) σ (λ_ σ'=>Q .none σ') Q):aj c (k+1) f args σ Q:=by
 intro A s L vs hR W hv;refine (G.fns f).casesOn λfd hfd hbody hk hnm hgen hco hgl hbi hclo hpo hpa hva hko hkw hdf hcd=>?_;have ho:=W.keep _ _ hfd;have hdep:A.depth < recursionLimit:=by have:=hR.2.1;omega
 have hvl:(f.params.map Dy).length=vs.length:=by rw [DD,← hl,← hv.length]
 have hlim:s.heap.NoLimit:=G.lim.keeps W.keep;refine KH (codeAny_call_function hdep ho rfl hco hgen hbody (hcd.keeps W.keep) ?_);refine mf hpo hpa hva hko hkw hdf hvl (nu hp) ?_;rw [hclo];have hlook:∀x:String,fd.scope.names.lookup (Dy x)=f.sco.lookup x:=λx=>by rw [hnm,cA]
 have hcellmem:∀x:String,f.sco.lookup x=some .cell->∃a,(cellsFrom (s.heap.objs.size+1) fd.scope.names []).lookup (Dy x)=some a:=λx hx=>
  fW _ _ _ _ (.inl (hnm▸DO.mpr ⟨(x,.cell),db hx,rfl⟩))
 refine aI (wpAny_newFunctionEnv_cells hk ?_ ?_)
 · intro x hx;refine (DO.mp (Hx hx).1).elim λy hy=>?_;rw [← hy.2,hlook];exact (cK (hsc y hy.1)).imp_right λh1=>⟨h1,FJ.mpr (hcellmem y h1)⟩
 · intro env henv s' IC hz;refine bf IC.done λh' tk hs' hkeep=>?_;have hscope:env.scope=fd.scope:=henv▸rfl;have hloc:env.locals=s.heap.objs.size:=henv▸rfl;have hcs:env.cells=cellsFrom (s.heap.objs.size+1) fd.scope.names []:=henv▸rfl;have hkind:∀x:String,env.kindOf (Dy x)=f.sco.lookup x:=λx=>by unfold Env.kindOf;rw [hscope,hlook]
   obtain ⟨W',X'⟩:=W.grow (s':=s') hz (λb o e=>hs'▸hkeep b o e) (hs'▸rfl) (hs'▸rfl);have hcm:∀x a,env.cells.lookup x=some a->s.heap.objs.size < a:=λx a ha=>hloc▸IC.above x a (IT ha);have hcell:∀x,f.sco.lookup x=some .cell->∃a,env.cells.lookup (Dy x)=some a:=λx hx=>hcs▸hcellmem x hx;have hb1:∀{x V},af.args f.params args x=some V->_:=λ{x V} hx=>uy (kindOf:=env.kindOf) hp hv (λ_=>none) (λ_=>none) x V hx;have F:ax c env f.sco s' L (af.args f.params args):=by
    refine ⟨by rw [hscope];exact hk,by rw [hscope];exact hnm,by rw [henv];exact hgl,by rw [henv];exact hbi,⟨_,IC.toInCall.ns,λx V hx hlo=>(hb1 hx).casesOn λpv g1 g2 _=>⟨pv,g2 ((hkind x).trans hlo),g1.mono X'.vm0⟩⟩,
     λx V hx hlo=>?_,λx hx=>(hcell x hx).imp λa ha=>⟨_,ha,IC.cell _ a ha⟩,hloc▸W.fresh _ (DQ _),hloc▸W.h0none W.size0,
     λx a ha=>⟨W.fresh _ (D9 (hcm x a ha)),W.h0none (DM W.size0 (D9 (hcm x a ha))),_,IC.cell _ a ha⟩,λx y a hx hy=>PySem.name_of_addr IC.apart (IT hx) (IT hy)⟩
    have hc:=(cK (hsc x (xZ hx))).resolve_left hlo;exact (hcell x hc).elim λa ha=>(hb1 hx).casesOn λpv g1 _ g3=>⟨.inl hc,a,pv,ha,g3 ((hkind x).symm▸hlo)▸IC.cell _ a ha,g1.mono X'.vm0⟩
   refine ⟨G.lim.keeps W'.keep,codeAny_func ?_⟩;have hR':bl k (A.deeper env):=⟨hR.1,by have:=hR.2.1;show A.depth+1+k+5 < _;omega,by have:=hR.2.2;show A.units+3+8*k+60 < _;omega⟩;refine DU (hb (A.deeper env) s' σ L env (af.args f.params args) k _ Q hR' W' F h) (λfl s₂ h₂=>?_) λ_ _ f=>f.elim;have nar:∀{L2:ao},Ex (cF env) s' s₂ L L2->Ex bZ s s₂ L L2:=λX2=>((X'.weak (X:=cF env)).trans X2).narrow λb hlt hb=>hb.elim (λhb=>Fi _ (hloc▸hb▸hlt)) λhb=>hb.elim λx hb=>absurd hlt (E2.mpr (D9 (hcm x b hb)));cases fl with
   | next=>exact h₂.casesOn λρ2 σ2 L2 W₂ X2 V2 F2 hq=>⟨.none,σ2,L2,W₂,nar X2,rfl,hq⟩
   | ret v=>exact iX h₂ λV σ2 L2 W₂ X2 hV hq=>⟨V,σ2,L2,W₂,nar X2,hV,hq⟩
   | _=>exact h₂.elim
end
mutual
theorem gX(e:E)(r:Ku):behindInMarks r e.py=false:=by
 cases e with
 | test t=>exact uz t r
 | _=>rfl
theorem uz(t:T)(r:Ku):behindInMarks r t.py=false:=by
 cases t with
 | val e=>exact gX e r
 | _=>rfl
end
noncomputable def jj(sc:az)(x:String):Bool:=sc.lookup x == some .globalImplicit
noncomputable def Tg.isPair:Tg->Bool
 | .pair ..=>true
 | _=>false
noncomputable def Ts.isNil:Ts->Bool
 | .nil=>true
 | _=>false
mutual
noncomputable def aS(sc:az):E->Bool
 | .cst ..=>true
 | .var x _=>x != "__debug__" && x != "__classdict__"
 | .attr e _ _=>aS sc e
 | .tup es _ _=>gY sc es && decide (es.len < 1000)
 | .list es _=>gY sc es && decide (es.len < 1000)
 | .dict0 _=>true
 | .dict1 a b _=>aS sc a && aS sc b
 | .sub e i _=>aS sc e && aS sc i
 | .slFrom e n _ _ _=>aS sc e && decide (0<=n) && decide (n < 1000)
 | .slTo e n _ _ _=>aS sc e && decide (0<=n) && decide (n < 1000)
 | .bin a _ b _=>aS sc a && aS sc b
 | .neg e _=>aS sc e
 | .test t=>uA sc t
 | .ife t a b _=>nv sc t && aS sc a && aS sc b
 | .bi f _ es _=>gY sc es && jj sc f.name
 | .fn f _ es _=>gY sc es && jj sc f.gname && f.gname != "?"
 | .new cl _ es _=>gY sc es && jj sc cl.gname
 | .isInt e _ _ _=>aS sc e && jj sc "isinstance" && jj sc "int"
 | .sortedSet e _ _ _ _=>aS sc e && jj sc "sorted" && jj sc "set"
 | .sortedGet d _ _ _ _ _ _=>jj sc "sorted" && d != "__debug__" && d != "__classdict__"
 | .meth e _ pa es p=>aS sc e && gY sc es && (pa.endLine == p.line) && decide (es.len < 30)
 | .lcomp elt t it ifs scI _=>pJ sc t it && bw sc scI t && aS (relab sc scI) elt && mh (relab sc scI) ifs
 | .dcomp a b t it scI _=>pJ sc t it && bw sc scI t && aS (relab sc scI) a && aS (relab sc scI) b
 | .dsel d w x _ _ _ p4 _ _ p7 _ p9 _ _ scI _=>(p7.endLine == p9.line) && bw sc scI (.name x p4) && (scI.lookup d == some .free) && (scI.lookup w == some .free) && [d,w,x].all λy=>y != "__debug__" && y != "__classdict__"
 | .fstr pre _ e _ _=>aS sc e && decide ((Dy pre).length < 100)
noncomputable def gY(sc:az):Es->Bool
 | .nil=>true
 | .cons e es=>aS sc e && gY sc es
noncomputable def nv(sc:az):T->Bool
 | .val e=>aS sc e && e.plainT
 | .not t _=>nv sc t
 | .bool _ ts _=>mh sc ts
 | .cmp a _ b _=>aS sc a && aS sc b
 | .cmp2 a _ b _ d _=>aS sc a && aS sc b && aS sc d
noncomputable def mh(sc:az):Ts->Bool
 | .nil=>true
 | .cons t ts=>nv sc t && mh sc ts
noncomputable def uA(sc:az):T->Bool
 | .val e=>aS sc e
 | .not t _=>uA sc t
 | .bool _ ts _=>uB sc ts
 | .cmp a _ b _=>aS sc a && aS sc b
 | .cmp2 ..=>false
noncomputable def uB(sc:az):Ts->Bool
 | .nil=>false
 | .cons t ts=>uA sc t && (ts.isNil || uB sc ts)
noncomputable def pJ(sc:az)(t:Tg):It->Bool
 | .e e=>aS sc e
 | .range _ e _=>aS sc e && jj sc "range"
 | .enum _ e _=>aS sc e && jj sc "enumerate" && t.isPair
end
structure aD(c:Cx):Prop where
 dict:∀(A:Em) (s:DA) (σ:aa) (L:ao) (p:al) (l:List PV) (Q:PV->aa->Prop),A.handled=none->A.units+60 < cLine->Wd c s σ L->σ p=some (.list l)->l.length < ay->cJ l [] (λd=>aQ σ (.dict d) Q)->
  wpAny (model c.prog c.w) A (call (.type "dict") [.ref (L.ad p)]) (aq c s L Q) aY s
 sset:∀(sc:az) (e:E) (pf pg p2 p:Pos),SE c sc e->sc.lookup "sorted" = some .globalImplicit->sc.lookup "set" = some .globalImplicit->SE c sc (.sortedSet e pf pg p2 p)
 dsel:∀(sc scI:az) (d w x:String) (p1 p2 p3 p4 p5 p6 p7 p8 p9 p10 p11 p:Pos),(p7.endLine == p9.line)=true->bw sc scI (.name x p4)=true->scI.lookup d=some .free->scI.lookup w=some .free->(∀y∈[d,w,x],y≠"__debug__"/\y≠"__classdict__")->SE c sc (.dsel d w x p1 p2 p3 p4 p5 p6 p7 p8 p9 p10 p11 scI p)
 sget:∀(sc:az) (d:String) (pf pd pd2 pa pk p:Pos),d≠"__debug__"->d≠"__classdict__"->sc.lookup "sorted" = some .globalImplicit->SE c sc (.sortedGet d pf pd pd2 pa pk p)
theorem d4{sc:az}{x:String}(h:jj sc x=true):sc.lookup x=some .globalImplicit:=by simpa [jj] using h
theorem an{a b:Bool}(h:(a && b)=true):a=true/\b=true:=DP.mp h
theorem dn{p:Prop}[Decidable p]{a:Bool}(h:(a && decide p)=true):a=true/\p:=⟨(an h).1,of_decide_eq_true (an h).2⟩
theorem bn{x y:String}{a:Bool}(h:(a && x != y)=true):a=true/\x≠y:=⟨(an h).1,bne_iff_ne.mp (an h).2⟩
mutual
theorem aE{c:Cx}(G:Gd c)(P:aD c)(e:E)(sc:az)(h:aS sc e=true):SE c sc e:=by
 cases e with
 | cst k n p=>exact A7 k n p
 | var x p=>exact A8 x p (bne_iff_ne.mp (bn h).1) (bn h).2
 | attr e a p=>exact zQ G (aE G P e sc h) a p
 | tup es n p=>exact A9 (fq G P es sc (dn h).1) (dn h).2 n p
 | list es p=>exact zS (fq G P es sc (dn h).1) (dn h).2 p
 | dict0 p=>exact xK p
 | dict1 a b p=>exact xQ (aE G P a sc (an h).1) (aE G P b sc (an h).2) p
 | sub a b p=>exact Bg (aE G P a sc (an h).1) (aE G P b sc (an h).2) p
 | slFrom e n pn ps p=>exact zT (aE G P e sc (dn (dn h).1).1) n (dn (dn h).1).2 (dn h).2 pn ps p
 | slTo e n pn ps p=>exact CD (aE G P e sc (dn (dn h).1).1) n (dn (dn h).1).2 (dn h).2 pn ps p
 | bin a op b p=>exact Bh (aE G P a sc (an h).1) (aE G P b sc (an h).2) op p
 | neg e p=>exact Bl (aE G P e sc h) p
 | test t=>exact zU (mj G P t sc h)
 | ife t a b p=>exact Bm (iP G P t sc (an (an h).1).1) (aE G P a sc (an (an h).1).2) (aE G P b sc (an h).2) p
 | bi f pf es p=>exact CE G P.dict (fq G P es sc (an h).1) (d4 (an h).2) pf p
 | fn f pf es p=>exact CF G (fq G P es sc (an (bn h).1).1) (bn h).2 (d4 (an (bn h).1).2) pf p
 | new f pf es p=>exact Bu G (fq G P es sc (an h).1) (d4 (an h).2) pf p
 | isInt e pf pi p=>exact xP G (aE G P e sc (an (an h).1).1) (d4 (an (an h).1).2) (d4 (an h).2) pf pi p
 | sortedSet e pf pg p2 p=>exact P.sset sc e pf pg p2 p (aE G P e sc (an (an h).1).1) (d4 (an (an h).1).2) (d4 (an h).2)
 | dsel d w x p1 p2 p3 p4 p5 p6 p7 p8 p9 p10 p11 scI p=>
  obtain ⟨h,h5⟩:=an h;obtain ⟨h,h4⟩:=an h;obtain ⟨h,h3⟩:=an h;rw [Et] at h5;exact P.dsel sc scI d w x p1 p2 p3 p4 p5 p6 p7 p8 p9 p10 p11 p (an h).1 (an h).2 (IX h3) (IX h4) λy hy=>⟨bne_iff_ne.mp (an (h5 y hy)).1,bne_iff_ne.mp (an (h5 y hy)).2⟩
 | sortedGet d pf pd pd2 pa pk p=>exact P.sget sc d pf pd pd2 pa pk p (bn (bn h).1).2 (bn h).2 (d4 (bn (bn h).1).1)
 | meth e m pa es p=>exact zZ G (aE G P e sc (an (an (dn h).1).1).1) (fq G P es sc (an (an (dn h).1).1).2) m pa p (an (dn h).1).2 (dn h).2
 | lcomp elt t it ifs scI p=>exact qo (iQ G P it sc t (an (an (an h).1).1).1) (aE G P elt _ (an (an h).1).2) (nw G P ifs _ (an h).2) (an (an (an h).1).1).2
 | dcomp a b t it scI p=>exact qp (iQ G P it sc t (an (an (an h).1).1).1) (aE G P a _ (an (an h).1).2) (aE G P b _ (an h).2) (an (an (an h).1).1).2
 | fstr pre p1 e p2 p=>exact z3 (aE G P e sc (dn h).1) pre (dn h).2 p1 p2 p
theorem fq{c:Cx}(G:Gd c)(P:aD c):∀(es:Es) (sc:az),gY sc es=true->kQ c sc es
 | .nil,sc,_=>zR
 | .cons e es,sc,h=>xJ (aE G P e sc (an h).1) (fq G P es sc (an h).2)
theorem iP{c:Cx}(G:Gd c)(P:aD c):∀(t:T) (sc:az),nv sc t=true->ST c sc t
 | .val e,sc,h=>Br (aE G P e sc (an h).1) (an h).2
 | .not t p,sc,h=>Bp (iP G P t sc h) p
 | .bool op ts p,sc,h=>zV (sM G P ts sc h) op p
 | .cmp a op b p,sc,h=>Bo G (aE G P a sc (an h).1) (aE G P b sc (an h).2) op p (gX b op)
 | .cmp2 a op b op2 d p,sc,h=>zY G (aE G P a sc (an (an h).1).1) (aE G P b sc (an (an h).1).2) (aE G P d sc (an h).2) op op2 p (gX d op2)
theorem sM{c:Cx}(G:Gd c)(P:aD c):∀(ts:Ts) (sc:az),mh sc ts=true->vO c sc ts
 | .nil,sc,_=>zW
 | .cons t ts,sc,h=>xN (iP G P t sc (an h).1) (sM G P ts sc (an h).2)
theorem nw{c:Cx}(G:Gd c)(P:aD c):∀(ts:Ts) (sc:az),mh sc ts=true->oh c sc ts
 | .nil,sc,_=>zX
 | .cons t ts,sc,h=>xO (iP G P t sc (an h).1) (nw G P ts sc (an h).2)
theorem mj{c:Cx}(G:Gd c)(P:aD c):∀(t:T) (sc:az),uA sc t=true->SV c sc t
 | .val e,sc,h=>Bq (aE G P e sc h)
 | .not t p,sc,h=>Bs (mj G P t sc h) p
 | .bool op ts p,sc,h=>z5 (sN G P ts sc h) op p
 | .cmp a op b p,sc,h=>Bn G (aE G P a sc (an h).1) (aE G P b sc (an h).2) op p (gX b op)
 | .cmp2 ..,sc,h=>nomatch (h:false=true)
theorem sN{c:Cx}(G:Gd c)(P:aD c):∀(ts:Ts) (sc:az),uB sc ts=true->vP c sc ts
 | .nil,sc,h=>nomatch (h:false=true)
 | .cons t .nil,sc,h=>z4 (mj G P t sc (an h).1)
 | .cons t (.cons t' ts),sc,h=>by
  exact xT (mj G P t sc (an h).1) (sN G P (.cons t' ts) sc (an h).2)
theorem iQ{c:Cx}(G:Gd c)(P:aD c):∀(it:It) (sc:az) (t:Tg),pJ sc t it=true->jA c sc it t
 | .e e,sc,t,h=>CG (aE G P e sc h) t
 | .range pf e p,sc,t,h=>vT G (aE G P e sc (an h).1) (d4 (an h).2) pf p t
 | .enum pf e p,sc,t,h=>by
  cases t with
  | name _ _=>cases (an h).2
  | pair x px y py k pp=>exact xS G (aE G P e sc (an (an h).1).1) (d4 (an (an h).1).2) pf p x px y py k pp
end
noncomputable def lw(sc:az):aT->Bool
 | .name x _=>bU sc x
 | .attr e _ _=>aS sc e
 | .sub e i _=>aS sc e && aS sc i
theorem qv{c:Cx}(G:Gd c)(P:aD c)(t:aT)(sc:az)(h:lw sc t=true):SA c sc t:=by
 cases t with
 | name x p=>exact nr x p h
 | attr e a p=>exact z6 G (aE G P e sc h) a p
 | sub e i p=>
  exact Bv (aE G P e sc (an h).1) (aE G P i sc (an h).2) p
noncomputable def gD:List String->Bool
 | []=>true
 | x::r=>!r.contains x && gD r
theorem jG:∀{l:List String},gD l=true->l.Nodup
 | [],_=>Fg
 | x::r,h=>by
  simp only [gD,FA,Ic,List.contains_eq_mem,decide_eq_false_iff_not] at h;exact EO.mpr ⟨h.1,jG h.2⟩
noncomputable def ny(sc:az)(ts:List aT)(e:E):Bool:=
 cond (Hy e.ctorIdx 3) (ts.all (lw sc) && aS sc e && !(constantsAlone 9 e.py) && gD (ts.filterMap aT.nm)) (ts.all (lw sc) && aS sc e && dZ e.py && pI e.py)
noncomputable def aT.bd(sc:az):aT->Bool
 | .name x _=>bU sc x
 | _=>false
noncomputable def qw(sc:az)(t:aT)(e:E):Bool:=
 cond (Hy e.ctorIdx 21 || Hy e.ctorIdx 22) (t.bd sc && aS sc e) (lw sc t && aS sc e && dZ e.py)
mutual
noncomputable def BB(sc:az):S->Bool
 | .asg t e _=>qw sc t e
 | .asgs ts _ _ e _=>ny sc ts e
 | .expr e _=>aS sc e && dZ e.py
 | .ret e _=>aS sc e
 | .ite t a b _=>nv sc t && gZ sc a && gZ sc b
 | .while t b _=>nv sc t && gZ sc b
 | .for t it b _=>pJ sc t it && t.ok sc && gZ sc b
 | .raise _=>true
noncomputable def gZ(sc:az):Ss->Bool
 | .nil=>true
 | .cons s ss=>BB sc s && gZ sc ss
end
theorem E.cp_cases{P:E->Prop}(h1:∀a b c d e f,P (.lcomp a b c d e f))(h2:∀a b c d e f,P (.dcomp a b c d e f)){e:E}(q:(Hy e.ctorIdx 21 || Hy e.ctorIdx 22)=true):P e:=by
 cases e with
 | lcomp=>exact h1 _ _ _ _ _ _
 | dcomp=>exact h2 _ _ _ _ _ _
 | _=>exact absurd q DY
theorem E.tup_cases{P:E->Prop}(h:∀a b c,P (.tup a b c)){e:E}(q:Hy e.ctorIdx 3=true):P e:=by
 cases e with
 | tup=>exact h _ _ _
 | _=>exact absurd q DY
theorem vZ{c:Cx}(G:Gd c)(P:aD c){t:aT}{e:E}{sc:az}(h:qw sc t e=true)(p:Pos):SS c sc (.asg t e p):=by
 delta qw at h;cases q:Hy e.ctorIdx 21 || Hy e.ctorIdx 22 with
 | false=>
  rw [q] at h;have h:=an (show (lw sc t && aS sc e && dZ e.py)=true from h);exact Bx (qv G P _ sc (an h.1).1) (aE G P _ sc (an h.1).2) h.2 p
 | true=>
  rw [q] at h;have h:=an (show (t.bd sc && aS sc e)=true from h);cases t with
  | name x px=>
   refine E.cp_cases (P:=λe=>aS sc e=true->SS c sc (.asg (.name x px) e p)) (λ_ _ _ _ _ _ g=>?_) (λ_ _ _ _ _ _ g=>?_) q h.2
   · exact qr h.1 (iQ G P _ sc _ (an (an (an g).1).1).1) (aE G P _ _ (an (an g).1).2) (nw G P _ _ (an g).2) (an (an (an g).1).1).2
   · exact qs h.1 (iQ G P _ sc _ (an (an (an g).1).1).1) (aE G P _ _ (an (an g).1).2) (aE G P _ _ (an g).2) (an (an (an g).1).1).2
  | _=>exact absurd h.1 DY
theorem uC{c:Cx}(G:Gd c)(P:aD c){ts:List aT}{e:E}{sc:az}(h:ny sc ts e=true)(kt:Nat)(pt p:Pos):SS c sc (.asgs ts kt pt e p):=by
 delta ny at h;cases q:Hy e.ctorIdx 3 with
 | false=>
  rw [q] at h;have h:=an (show (ts.all (lw sc) && aS sc e && dZ e.py && pI e.py)=true from h);exact z9 (λt ht=>qv G P t sc (Et.mp (an (an h.1).1).1 t ht)) (aE G P _ sc (an (an h.1).1).2) (an h.1).2 h.2 kt pt p
 | true=>
  rw [q] at h;have h:=an (show (ts.all (lw sc) && aS sc e && !(constantsAlone 9 e.py) && gD (ts.filterMap aT.nm))=true from h);refine E.tup_cases (P:=λe=>aS sc e=true->(!(constantsAlone 9 e.py))=true->SS c sc (.asgs ts kt pt e p)) (λ_ _ _ g1 g2=>?_) q (an (an h.1).1).2 (an h.1).2;exact se (λt ht=>qv G P t sc (Et.mp (an (an h.1).1).1 t ht)) (aE G P _ sc g1) g2 (jG h.2) kt pt p
mutual
theorem BC{c:Cx}(G:Gd c)(P:aD c)(st:S)(sc:az)(h:BB sc st=true):SS c sc st:=by
 cases st with
 | asg t e p=>exact vZ G P h p
 | asgs ts kt pt e p=>exact uC G P h kt pt p
 | expr e p=>exact Aa (aE G P e sc (an h).1) (an h).2 p
 | ret e p=>exact Bw (aE G P e sc h) p
 | ite t a b p=>exact By (iP G P t sc (an (an h).1).1) (ft G P a sc (an (an h).1).2) (ft G P b sc (an h).2) p
 | «while» t b p=>exact xV (iP G P t sc (an h).1) (ft G P b sc (an h).2) p
 | «for» t it b p=>exact BA (iQ G P it sc t (an (an h).1).1) (ft G P b sc (an h).2) (an (an h).1).2 p
 | raise st=>exact λA s σ L env ρ k Qn Qr hR W F hw=>G9 hw
theorem ft{c:Cx}(G:Gd c)(P:aD c):∀(ss:Ss) (sc:az),gZ sc ss=true->mc c sc ss
 | .nil,sc,_=>Ab
 | .cons s ss,sc,h=>xU (BC G P s sc (an h).1) (ft G P ss sc (an h).2)
end
theorem Ae(f:Fn):(gZ f.sco (dk f) && (gD f.params && f.params.all (bU f.sco)))=true:=Fn.all (p:=λf=>gZ f.sco (dk f) && (gD f.params && f.params.all (bU f.sco))) (by decide +kernel) f
theorem aw{c:Cx}(G:Gd c)(P:aD c)(f:Fn){k:Nat}{args:List PV}{σ:aa}{Q:PV->aa->Prop}(hl:args.length=f.params.length)
 (h:eC (aj c) k (dk f) (af.args f.params args) σ (λ_ σ'=>Q .none σ') Q):aj c (k+1) f args σ Q:=by
 have h1:=DP.mp (Ae f);have h2:=DP.mp h1.2;exact vY G f (ft G P _ _ h1.1) (jG h2.1) (Et.mp h2.2) hl h
theorem iT{c:Prop}[Decidable c]{A B:Prop}(hc:c)(h:A):if c then A else B:=(if_pos hc).symm▸h
theorem iF{c:Prop}[Decidable c]{A B:Prop}(hc:¬c)(h:B):if c then A else B:=(if_neg hc).symm▸h
theorem iB{b:Bool}{A B:Prop}(hc:b=false)(h:B):if b=true then A else B:=iF (by rw [hc];exact DY) h
theorem dN{tst:af->aa->(Bool->aa->Prop)->Prop}{body:af->aa->(af->aa->Prop)->(PV->aa->Prop)->Prop}{Qn:af->aa->Prop}{Qr:PV->aa->Prop}
 (I:Nat->af->aa->Prop) (h:∀m ρ σ,I m ρ σ->∀P:af->aa->Prop,(∀m' ρ' σ',m' < m->I m' ρ' σ'->P ρ' σ')->tst ρ σ (λb σ1=>if b=true then body ρ σ1 P Qr else Qn ρ σ1)) :
 ∀(n m:Nat) (ρ:af) (σ:aa),m < n->I m ρ σ->j7 tst body n ρ σ Qn Qr:=by
 intro n;induction n with
 | zero=>exact λm _ _ hm _=>absurd hm (Fy _)
 | succ n ih=>exact λm ρ σ hm hI=>h m ρ σ hI _ λm' ρ' σ' hm' hI'=>ih m' ρ' σ' (DI hm' (FS hm)) hI'
theorem au{n:Nat}(h:n < 10000):n < ay:=DH h (by decide)
theorem cL{σ:aa}{p:al}{l:List PV}{n:Nat}{Q:PV->aa->Prop}(h:σ p=some (.list l))(e:l.length=n)(hn:n < 10000)(hQ:Q (.int (n:Nat)) σ):bC σ Q .len [.ref p]:=
 .lenL h (e▸au hn) (e▸hQ)
theorem a9{σ:aa}{q:al}{c:Cl}{fs:List (String×PV)}{a:String}{v:PV}(h:σ q=some (.inst c fs))(e:cU fs a=some v):bS σ (.ref q) a=some v:=by
 exact (congrArg (·.bind (pR a)) h).trans e
theorem fe{σ:aa}{q:al}{l:List PV}{m:String}{k:MK}(h:σ q=some (.list l))(e:pS.lookup m=some k):ff σ (.ref q) m=some k:=by
 exact (congrArg (·.bind (iK m)) h).trans e
theorem iR{σ:aa}{q:al}{l:List (PV×PV)}{m:String}{k:MK}(h:σ q=some (.dict l))(e:pT.lookup m=some k):ff σ (.ref q) m=some k:=by
 exact (congrArg (·.bind (iK m)) h).trans e
theorem aL{σ:aa}{q:al}{c:Cl}{fs:List (String×PV)}{m:String}{f:Fn}(h:σ q=some (.inst c fs))(e:cU fs m=none)(g:c.meth m=some f):ff σ (.ref q) m=some (.fn f):=by
 refine (congrArg (·.bind (iK m)) h).trans ((if_pos (ER.mpr e)).trans ?_);rw [g];rfl
noncomputable def al.isLoc:al->Bool
 | .loc _=>true
 | _=>false
structure St(I:al->Prop)(σ σ':aa):Prop where
 loc:∀p,p.isLoc=true->σ p≠none->σ' p=σ p
 oth:∀p,p.isLoc=false->¬I p->σ' p=σ p
abbrev Ro:=St λ_=>False
theorem St.refl{I:al->Prop}{σ:aa}:St I σ σ:=⟨λ_ _ _=>rfl,λ_ _ _=>rfl⟩
theorem St.trans{I:al->Prop}{σ σ' σ'':aa}(a:St I σ σ')(b:St I σ' σ''):St I σ σ'':=
 ⟨λp hp h=>(b.loc p hp (by rw [a.loc p hp h];exact h)).trans (a.loc p hp h),λp hp h=>(b.oth p hp h).trans (a.oth p hp h)⟩
theorem St.weak{I J:al->Prop}{σ σ':aa}(a:St I σ σ')(h:∀p,I p->J p):St J σ σ':=⟨a.loc,λp hp hn=>a.oth p hp λhi=>hn (h p hi)⟩
theorem Ro.weak{J:al->Prop}{σ σ':aa}(a:Ro σ σ'):St J σ σ':=St.weak a λ_ h=>h.elim
theorem Ro.at{σ σ':aa}(a:Ro σ σ'){p:al}(hp:p.isLoc=false):σ' p=σ p:=a.oth p hp λh=>h
theorem Ro.new{I:al->Prop}{σ:aa}{n:Nat}{o:PO}(h:σ (.loc n)=none):St I σ (σ.set (.loc n) o):=
 ⟨λp _ hn=>aa.set_ne _ _ λe=>hn (e▸h),λp hp _=>aa.set_ne _ _ λe=>EU ((e▸hp:al.isLoc (.loc n)=false):true=false)⟩
theorem St.put{I:al->Prop}{σ:aa}{p:al}{o:PO}(hp:p.isLoc=false)(hI:I p):St I σ (σ.set p o):=
 ⟨λq hq _=>aa.set_ne _ _ λe=>EU (hp.symm.trans (e▸hq)),λq _ hn=>aa.set_ne _ _ λe=>hn (e▸hI)⟩
theorem af.put_self(ρ:af)(x:String)(v:PV):(ρ.put x v) x=some v:=if_pos rfl
theorem af.put_ne(ρ:af){x y:String}(v:PV)(h:y≠x):(ρ.put x v) y=ρ y:=if_neg h
noncomputable def ai(l:List Nat):List PV:=l.map λ(x:Nat)=>PV.int (x:Int)
theorem ah(l:List Nat):(ai l).length=l.length:=DD _
noncomputable def cp(N:Nat)(cls:Nat->Nat):Nat:=((DV N).filter λa=>cls a == a).length
theorem fL{N:Nat}{cls:Nat->Nat}(h:cls N=N):cp (N+1) cls=cp N cls+1:=by
 simp [cp,Gu,Fv,h]
structure cy(σ:aa)(N:Nat)(cls:Nat->Nat):Prop where
 u:σ .unions=some (.inst .unions [("above",.ref .uAbove),("lots",.ref .uLots),("merged",.ref .uMerged)])
 ab:∃ab:List Nat,σ .uAbove=some (.list (ai ab))/\ab.length=N/\∀a b,ab[a]? = some b->b<=a/\cls b=cls a/\(cls a=a↔b=a)
 lots:σ .uLots=some (.list ((DV N).map λi=>.ref (.uLot i)))
 lot:∀a,a < N->cls a=a->∃l,σ (.uLot a)=some (.list (ai l))/\l.Nodup/\∀x,x∈l↔x < N/\cls x=a
 free:∀a,N<=a->σ (.uLot a)=none
 mg:∃l,σ .uMerged=some (.list l)/\l.length+cp N cls<=N
 le:∀a,cls a<=a
 idem:∀a,cls (cls a)=cls a
 out:∀a,N<=a->cls a=a
 small:N < 100
noncomputable def cB:al->Prop
 | .uAbove | .uLots | .uMerged | .uLot _=>True
 | _=>False
theorem cB.isLoc(p:al):cB p->p.isLoc=false:=by
 cases p with
 | loc _=>exact G9
 | _=>exact λ_=>rfl
theorem cy.of_eq{σ σ':aa}{N:Nat}{cls:Nat->Nat}(U:cy σ N cls)(h:∀p,(p=.unions\/cB p)->σ' p=σ p):cy σ' N cls where
 u:=by rw [h _ (.inl rfl)];exact U.u
 ab:=by rw [h _ (.inr (by trivial))];exact U.ab
 lots:=by rw [h _ (.inr (by trivial))];exact U.lots
 lot:=λa ha hc=>by rw [h _ (.inr (by trivial))];exact U.lot a ha hc
 free:=λa ha=>by rw [h _ (.inr (by trivial))];exact U.free a ha
 mg:=by rw [h _ (.inr (by trivial))];exact U.mg
 le:=U.le
 idem:=U.idem
 out:=U.out
 small:=U.small
theorem cy.ro{σ σ':aa}{N:Nat}{cls:Nat->Nat}(U:cy σ N cls)(h:Ro σ σ'):cy σ' N cls:=
 U.of_eq λp hp=>h.at (hp.elim (λe=>e▸rfl) (cB.isLoc p))
theorem v7{chk:aa->Prop}{bnd:PV->Option af}{tst:af->aa->(Bool->aa->Prop)->Prop}{elt:af->aa->(PV->aa->Prop)->Prop}{Q:List PV->aa->Prop}
 (I:List PV->List PV->aa->Prop)
 (step:∀x r acc σ,I (x::r) acc σ->chk σ/\acc.length < ay/\∃ρ,bnd x=some ρ/\∀P:List PV->aa->Prop,(∀acc' σ',I r acc' σ'->P acc' σ')->
  tst ρ σ λb σ1=>if b=true then elt ρ σ1 λv σ2=>P (acc ++ [v]) σ2 else P acc σ1)
 (fin:∀acc σ,I [] acc σ->chk σ/\Q acc σ):∀(l acc:List PV) (σ:aa),I l acc σ->cn chk bnd tst elt l acc σ Q:=by
 intro l;induction l with
 | nil=>exact fin
 | cons x r ih=>exact λacc σ h=>have s:=step x r acc σ h;⟨s.1,s.2.1,s.2.2.elim λρ q=>⟨ρ,q.1,q.2 _ ih⟩⟩
theorem fM{chk:aa->Prop}{bnd:PV->Option af}{tst:af->aa->(Bool->aa->Prop)->Prop}{elt:af->aa->(PV->aa->Prop)->Prop}{Q:List PV->aa->Prop}{σ:aa}{l:List PV}
 (f:PV->PV) (g:PV->Bool) (hc:∀σ',Ro σ σ'->chk σ') (hl:l.length < ay)
 (h:∀x∈l,∃ρ,bnd x=some ρ/\∀σ',Ro σ σ'->∀(P1:PV->aa->Prop) (P0:aa->Prop),(g x=true->∀σ'',Ro σ σ''->P1 (f x) σ'')->(g x=false->∀σ'',Ro σ σ''->P0 σ'')->
  tst ρ σ' λb σ1=>if b=true then elt ρ σ1 P1 else P0 σ1)
 (hQ:∀σ',Ro σ σ'->Q ((l.filter g).map f) σ'):cn chk bnd tst elt l [] σ Q:=by
 refine v7 (λr acc σ'=>Ro σ σ'/\∃pre,pre ++ r=l/\(pre.filter g).map f=acc) (λx r acc σ' q=>q.2.elim λpre e=>(h x (e.1▸D0 _ (.head _))).elim λρ p=>⟨hc _ q.1,?_,ρ,p.1,λP hP=>p.2 σ' q.1 _ _ (λhg σ'' hr'=>hP _ _ ⟨hr',pre ++ [x],by rw [Ey];exact e.1,?_⟩) λhg σ'' hr'=>hP _ _ ⟨hr',pre ++ [x],by rw [Ey];exact e.1,?_⟩⟩)
  (λacc σ' q=>⟨hc _ q.1,q.2.elim λpre e=>by rw [← e.2,← Eg pre,e.1];exact hQ _ q.1⟩) l [] σ ⟨St.refl,[],rfl,rfl⟩
 · rw [← e.2,DD];exact DC (DM (Fm _ _) (by rw [← e.1,DG];exact Ed _ _)) hl
 · rw [Fv,D4,e.2,HQ hg];rfl
 · rw [Fv,D4,e.2,HR (by rw [hg];exact DY)];exact Eg _
theorem BD{σ:aa}{p:al}{l:List PV}{x:PV}{Q:PV->aa->Prop}(h:σ p=some (.list (l ++ [x])))(hl:l.length+1 < ay)(hQ:Q x (σ.set p (.list l))):cb σ Q .lPop (.ref p) []:=by
 exact .pop h (x:=x) List.getLast?_concat (by rw [DG];exact hl) (by rw [List.dropLast_concat];exact hQ)
theorem bH{σ:aa}{p:al}{l:List PV}{a:Nat}{x:PV}{Q:PV->aa->Prop}(h:σ p=some (.list l))(ha:a < 2 ^ 60)(hx:l[a]? = some x)(hQ:Q x σ):eg σ Q (.ref p) (.int (a:Nat)):=
 .li h (EL _) (by lia) hx hQ
theorem zh{σ:aa}{p:al}{l:List PV}{a:Nat}{x:PV}{Q:aa->Prop}(h:σ p=some (.list l))(ha:a < 2 ^ 60)(hl:a < l.length)(hQ:Q (σ.set p (.list (l.set a x)))):eh σ Q x (.ref p) (.int (a:Nat)):=
 .li h (EL _) (by lia) hl hQ
theorem hG{C:CP}{k:Nat}{x a:String}{px p:Pos}{v:PV}{ρ:af}{σ:aa}{Q:af->aa->Prop}{q:al}{c:Cl}{fs:List (String×PV)}(hx:ρ x=some (.ref q))(h:σ q=some (.inst c fs))(h1:fs.length < 20)(h2:a∈c.attrs)
 (K:Q ρ (σ.set q (.inst c (dy fs a v)))):j6 C k (.attr (.var x px) a p) v ρ σ Q:=
 ⟨_,hx,.mk h h1 h2 K⟩
theorem zi{a b:Nat}{σ:aa}{K:Bool->Prop}(h:K (a == b)):mV σ K (.int (a:Nat)) (.int (b:Nat)):=by
 refine .pl rfl rfl (Eo _) ?_;have e:aG (.int (a:Nat)) (.int (b:Nat))=(a == b):=by
  by_cases e:a=b
  · rw [e,aJ,beq_self_eq_true]
  · rw [aC λq:PV.int (a:Nat)=PV.int (b:Nat)=>e (Fk (PV.int.inj q)),beq_eq_false_iff_ne.mpr e]
 rw [e];exact h
theorem fN{a b:Nat}{σ:aa}{K:Bool->Prop}(h:K (a != b)):bc σ K .NotEq (.int (a:Nat)) (.int (b:Nat)):=.ne (zi (K:=λb=>K !b) h)
theorem eW{a b:Nat}{σ:aa}{K:Bool->Prop}(h:K (a == b)):bc σ K .Eq (.int (a:Nat)) (.int (b:Nat)):=.eq (zi h)
theorem gE{σ:aa}{o:PO}{Q:PV->aa->Prop}(h:∀n,σ (.loc n)=none->Q (.ref (.loc n)) (σ.set (.loc n) o)):aQ σ o Q:=.inl h
theorem sO{σ:aa}{o:PO}{Q:PV->aa->Prop}(p:al)(hp:σ p=none)(h:Q (.ref p) (σ.set p o)):aQ σ o Q:=.inr ⟨p,hp,h⟩
theorem dC{l:List Nat}{m b:Nat}(h:l[m]? = some b):(ai l)[m]? = some (.int (b:Nat)):=by
 rw [ai,Ef,h];rfl
theorem dO(l:List Nat)(n:Nat):ai l ++ [.int (n:Nat)]=ai (l ++ [n]):=by rw [ai,ai,D4];rfl
theorem zj{σ:aa}{p:al}{l:List Nat}{n:Nat}{Q:PV->aa->Prop}(h:σ p=some (.list (ai l)))(hl:l.length < ay)(hQ:Q .none (σ.set p (.list (ai (l ++ [n]))))):cb σ Q .lAppend (.ref p) [.int (n:Nat)]:=
 .app h ((ah l).symm▸hl) (dO l n▸hQ)
theorem jH{l:List Nat}{m:Nat}(h:m < l.length):∃b,l[m]? = some b:=⟨_,DW h⟩
theorem cy.abv{σ:aa}{N:Nat}{cls:Nat->Nat}(U:cy σ N cls):bS σ (.ref .unions) "above" = some (.ref .uAbove):=a9 U.u rfl
theorem cy.lts{σ:aa}{N:Nat}{cls:Nat->Nat}(U:cy σ N cls):bS σ (.ref .unions) "lots" = some (.ref .uLots):=a9 U.u rfl
inductive zk(σ:aa)(N:Nat)(cls:Nat->Nat)(a:Nat):Nat->af->aa->Prop
 | mk {m ρ}:ρ "self" = some (.ref .unions)->ρ "a" = some (.int (m:Nat))->m < N->cls m=cls a->zk σ N cls a m ρ σ
structure bL(σ:aa)(p:al)(o:PO)(σ':aa):Prop where
 at_:σ' p=some o
 ne:∀q,q≠p->σ' q=σ q
theorem upd(σ:aa)(p:al)(o:PO):bL σ p o (σ.set p o):=⟨aa.set_self _ _ _,λ_ h=>aa.set_ne _ _ h⟩
theorem bL.st{I:al->Prop}{σ σ':aa}{p:al}{o:PO}(u:bL σ p o σ')(hp:p.isLoc=false)(hI:I p):St I σ σ':=
 ⟨λq hq _=>u.ne q λe=>EU (hp.symm.trans (e▸hq)),λq _ hn=>u.ne q λe=>hn (e▸hI)⟩
theorem bo{σ:aa}{o:PO}{Q:PV->aa->Prop}(h:∀n σ',Ro σ σ'->σ' (.loc n)=some o->Q (.ref (.loc n)) σ'):aQ σ o Q:=.inl λn hn=>h n _ (Ro.new hn) (aa.set_self _ _ _)
theorem gF{α:Type}{l:List α}{a x:α}{i:Nat}(h:(l ++ [a])[i]? = some x):l[i]? = some x\/i=l.length/\x=a:=by
 rcases FP i l.length with g | g
 · rw [FY g] at h;exact .inl h
 · rw [EW g] at h;cases q:i - l.length with
   | zero=>rw [q] at h;exact .inr ⟨LL (Nat.le_of_sub_eq_zero q) g,(DN h).symm⟩
   | succ j=>rw [q] at h;exact absurd h nofun
theorem hM{c:Cx}(G:Gd c)(P:aD c){σ:aa}{N:Nat}{cls:Nat->Nat}(U:cy σ N cls){a:Nat}(ha:a < N){Q:PV->aa->Prop}(hQ:Q (.int (cls a:Nat)) σ)(k:Nat) :
 aj c (k+1) .u_find [.ref .unions,.int (a:Nat)] σ Q:=by
 refine aw G P .u_find rfl ?_;refine aZ U.ab λab h1 h2 h3=>?_;refine ⟨a+1,dN (zk σ N cls a) (λm ρ σ' I=>?_) (a+1) a _ σ (D6 _) (.mk rfl rfl ha rfl)⟩;refine I.casesOn λhs hm hN hc K hK=>?_;refine (jH (h2▸hN:m < ab.length)).elim λb hb=>?_;have q:=h3 m b hb;have hl:m < 2 ^ 60:=DH (DH hN U.small) (by decide);refine ⟨_,hs,_,U.abv,_,hm,bH h1 hl (dC hb) ⟨_,hm,fN ?_⟩⟩;by_cases e:b=m
 · exact iB (bne_eq_false_iff_eq.mpr e) ⟨_,hm,by rw [← q.2.2.mpr e,hc];exact hQ⟩
 · exact iT (bne_iff_ne.mpr e) ⟨_,hs,_,U.abv,_,hm,bH h1 hl (dC hb) (hK b _ _ (HH q.1 e) (.mk ((af.put_ne _ _ (by decide)).trans hs) (af.put_self _ _ _) (DC q.1 hN) (q.2.1.trans hc)))⟩
theorem oz{c:Cx}(G:Gd c)(P:aD c){σ:aa}{N:Nat}{cls:Nat->Nat}(U:cy σ N cls){Q:PV->aa->Prop}(hQ:Q (.int (N:Nat)) σ)(k:Nat) :
 aj c (k+1) .u_size [.ref .unions] σ Q:=by
 refine aw G P .u_size rfl ?_;refine aZ U.ab λab h1 h2 h3=>?_;exact ⟨_,rfl,_,U.abv,cL h1 ((ah _).trans h2) (DH U.small (by decide)) hQ⟩
theorem cy.make{σ:aa}{N:Nat}{cls:Nat->Nat}(U:cy σ N cls)(hN:N+1 < 100){ab:List Nat}(h2:ab.length=N)(h3:∀a b,ab[a]? = some b->b<=a/\cls b=cls a/\(cls a=a↔b=a)){σ':aa}
 (h:σ'=((σ.set .uAbove (.list (ai (ab ++ [N])))).set (.uLot N) (.list (ai [N]))).set .uLots (.list ((DV (N+1)).map λi=>.ref (.uLot i)))):cy σ' (N+1) cls:=by
 have hcN:cls N=N:=U.out N (DQ _);rw [h];exact {
  u:=(aa.set_ne _ _ (by nofun)).trans ((aa.set_ne _ _ (by nofun)).trans ((aa.set_ne _ _ (by nofun)).trans U.u))
  ab:=⟨ab ++ [N],(aa.set_ne _ _ (by nofun)).trans ((aa.set_ne _ _ (by nofun)).trans (aa.set_self _ _ _)),by rw [DG,h2];rfl,λa b hab=>by
   refine (gF hab).elim (h3 a b) λq=>?_;rw [q.2,q.1,h2];exact ⟨DQ _,rfl,iff_of_true hcN rfl⟩⟩
  lots:=aa.set_self _ _ _
  lot:=λa ha hc=>by
   by_cases e:a=N
   · refine ⟨[a],by rw [e];exact (aa.set_ne _ _ (by nofun)).trans (aa.set_self _ _ _),Fb _ _,λx=>DS.trans ⟨λq=>⟨q.symm▸ha,q.symm▸hc⟩,λq=>?_⟩⟩;rcases FP x N with g | g
     · exact absurd (q.2▸U.le x) (HE.mpr (e▸g))
     · exact e▸LL (FS q.1) g
   · refine aZ (U.lot a (HH (FS ha) e) hc) λl l1 l2 l3=>⟨l,(aa.set_ne _ _ (by nofun)).trans ((aa.set_ne _ _ λq=>e (al.uLot.inj q)).trans ((aa.set_ne _ _ (by nofun)).trans l1)),l2,λx=>(l3 x).trans ⟨λq=>⟨En q.1,q.2⟩,λq=>⟨?_,q.2⟩⟩⟩;exact (Fh.mp q.1).elim id λg=>absurd (q.2.symm.trans (g▸hcN)) e
  free:=λa ha=>(aa.set_ne _ _ (by nofun)).trans ((aa.set_ne _ _ λq=>EY ha (al.uLot.inj q)).trans ((aa.set_ne _ _ (by nofun)).trans (U.free a (D9 ha))))
  mg:=U.mg.elim λmg q=>⟨mg,(aa.set_ne _ _ (by nofun)).trans ((aa.set_ne _ _ (by nofun)).trans ((aa.set_ne _ _ (by nofun)).trans q.1)),by rw [fL hcN];exact Ei q.2⟩
  le:=U.le
  idem:=U.idem
  out:=λa ha=>U.out a (D9 ha)
  small:=hN}
theorem v8{c:Cx}(G:Gd c)(P:aD c){σ:aa}{N:Nat}{cls:Nat->Nat}(U:cy σ N cls)(hN:N+1 < 100){Q:PV->aa->Prop}(hQ:∀σ',St cB σ σ'->cy σ' (N+1) cls->Q (.int (N:Nat)) σ')(k:Nat) :
 aj c (k+1) .u_make [.ref .unions] σ Q:=by
 refine aw G P .u_make rfl ?_;refine aZ U.ab λab h1 h2 h3=>?_;have hb:N+1 < ay:=au (DH hN (by decide));have f:∀{o},(σ.set .uAbove o) .unions=some _:=λ{o}=>(aa.set_ne _ _ (by nofun)).trans U.u;refine ⟨_,rfl,_,U.abv,.lAppend,fe h1 rfl,_,rfl,_,U.abv,cL h1 ((ah _).trans h2) (DH U.small (by decide)) (zj h1 (au (h2▸DH U.small (by decide))) ?_)⟩;have e1:(σ.set .uAbove (.list (ai (ab ++ [N])))) .uLots=some (.list ((DV N).map λi=>.ref (.uLot i))):=(aa.set_ne _ _ (by nofun)).trans U.lots;have hr:((DV N).map λi=>PV.ref (.uLot i)).length=N:=(DD _).trans Ez;have hr':((DV N).map λi=>PV.ref (.uLot i)).length < ay:=hr.symm▸EE hb;refine ⟨_,rfl,_,a9 f rfl,.lAppend,fe e1 rfl,_,rfl,_,a9 f rfl,cL e1 hr (DH (EE hN) (by decide)) ?_⟩;refine sO (.uLot N) ((aa.set_ne _ _ (by nofun)).trans (U.free N (DQ _))) (cb.app (l:=(DV N).map λi=>.ref (.uLot i)) ((aa.set_ne _ _ (by nofun)).trans e1) hr' ?_);refine ⟨_,rfl,_,a9 ((aa.set_ne _ _ (by nofun)).trans ((aa.set_ne _ _ (by nofun)).trans f)) rfl,cL (n:=N+1) (l:=ai (ab ++ [N])) ((aa.set_ne _ _ (by nofun)).trans ((aa.set_ne _ _ (by nofun)).trans (aa.set_self _ _ _))) (by rw [ah,DG,h2];rfl) (DH hN (by decide)) (.sub ?_)⟩;exact (Jc (N:Int) 1).symm▸hQ _ ((St.put rfl trivial).trans ((St.put rfl trivial).trans (St.put rfl trivial))) (U.make hN h2 h3 (by rw [Gu,D4];rfl))
theorem qx{c:Cx}(G:Gd c)(P:aD c){σ:aa}{N:Nat}{cls:Nat->Nat}(U:cy σ N cls){Q:PV->aa->Prop}
 (hQ:∀σ' m,Ro σ σ'->σ' (.loc m)=some (.list (ai ((DV N).filter λa=>cls a == a)))->Q (.ref (.loc m)) σ') (k:Nat):aj c (k+1) .u_classes [.ref .unions] σ Q:=by
 refine aw G P .u_classes rfl ?_;refine aZ U.ab λab h1 h2 h3=>?_;have hl:∀{a},a < N->a < 2 ^ 60:=λh=>DH (DH h U.small) (by decide);have hb:N < ay:=au (DH U.small (by decide));refine ⟨_,rfl,_,U.abv,cL h1 ((ah _).trans h2) (DH U.small (by decide)) ⟨EL _,EG.mpr (DH U.small (by decide)),?_⟩⟩;refine fM (l:=ai (DV N)) (λx=>x) (λx=>match x with | .int i=>cls i.toNat == i.toNat | _=>false) (λ_ _=>trivial) (by rw [ah,Ez];exact hb) (λx hx=>?_) λσ' hr=>?_
 · refine (DO.mp hx).elim λa q=>q.2▸⟨_,rfl,λσ' hr P1 P0 hp1 hp0=>?_⟩;have ha:=D3.mp q.1;have h1':σ' .uAbove=some (.list (ai ab)):=(hr.at rfl).trans h1;refine (jH (h2▸ha:a < ab.length)).elim λb hb=>?_;have q:=(h3 a b hb).2.2;refine ⟨_,rfl,_,a9 ((hr.at rfl).trans U.u) rfl,_,rfl,bH h1' (hl ha) (dC hb) ⟨_,rfl,eW ?_⟩⟩;by_cases e:b=a
   · rw [beq_iff_eq.mpr e];exact iT rfl ⟨_,rfl,hp1 (beq_iff_eq.mpr (q.mpr e)) _ hr⟩
   · rw [beq_eq_false_iff_ne.mpr e];exact iB rfl (hp0 (beq_eq_false_iff_ne.mpr λh=>e (q.mp h)) _ hr)
 · rw [MA,ai,GU];exact .inl λn hn=>hQ _ _ (hr.trans (Ro.new hn)) (aa.set_self _ _ _)
theorem gk:∀{l l':List Nat},l.Pairwise (· < ·)->l'.Pairwise (· < ·)->(∀x,x∈l↔x∈l')->l=l'
 | [],[],_,_,_=>rfl
 | [],y::r,_,_,h=>absurd ((h y).mpr EJ) (by simp)
 | x::r,[],_,_,h=>absurd ((h x).mp EJ) (by simp)
 | x::r,y::r',hl,hl',h=>by
  rw [GQ] at hl hl';have exy:x=y:=by
   have h1:=(h x).mp EJ;have h2:=(h y).mpr EJ;rw [D5] at h1 h2;rcases h1 with h1 | h1
   · exact h1
   · rcases h2 with h2 | h2
     · exact h2.symm
     · have:=hl'.1 x h1;have:=hl.1 y h2;lia
  subst exy
  congr 1
  refine gk hl.2 hl'.2 λz=>?_;have hz:=h z;rw [D5,D5] at hz;constructor
  · intro hm;rcases hz.mp (.inr hm) with e | e
    · subst e;exact absurd (hl.1 z hm) (Fi _)
    · exact e
  · intro hm;rcases hz.mpr (.inr hm) with e | e
    · subst e;exact absurd (hl'.1 z hm) (Fi _)
    · exact e
theorem bk(l:List Nat):a6 (ai l)=some (l.map λ(x:Nat)=>(x:Int)):=by
 induction l with
 | nil=>rfl
 | cons x r ih=>exact congrArg (Mc ((x:Int)::·)) ih
theorem fE{l:List Nat}{r:List Int}(hp:r.Perm (l.map λ(x:Nat)=>(x:Int)))(hs:r.Pairwise (·<=·)):∃r':List Nat,r=r'.map (λ(x:Nat)=>(x:Int))/\r'.Perm l/\r'.Pairwise (·<=·):=by
 refine ⟨r.map Iv,?_,?_,?_⟩
 · rw [Ea];have:∀x∈r,((λ(x:Nat)=>(x:Int))∘Iv) x=x:=by
    intro x hx;have:=(hp.mem_iff).mp hx;rw [DO] at this;obtain ⟨y,_,rfl⟩:=this;simp
   exact ((El this).trans (MA r)).symm
 · have:=hp.map Iv;rw [Ea] at this;have e:(Iv∘λ(x:Nat)=>(x:Int))=id:=by funext x;simp
   rw [e,II] at this;exact this
 · rw [E5];exact hs.imp λ{a b} h=>by lia
theorem iz{l:List Nat}(h:l.Pairwise (·<=·))(hn:l.Nodup):l.Pairwise (· < ·):=by
 have:=h.and hn;exact this.imp λ{a b} h=>by have:=h.1;have:=h.2;lia
noncomputable def mem(N:Nat)(cls:Nat->Nat)(a:Nat):List Nat:=(DV N).filter λx=>cls x == a
theorem mem_iff{N:Nat}{cls:Nat->Nat}{a x:Nat}:x∈mem N cls a↔x < N/\cls x=a:=by simp [mem]
theorem uD(N:Nat)(cls:Nat->Nat)(a:Nat):(mem N cls a).Pairwise (· < ·):=Fw _ (Gk)
theorem nz{σ:aa}{p:al}{l:List Nat}{Q:PV->aa->Prop}(h:σ p=some (.list (ai l)))(hl:l.length < 64)
 (hQ:∀r:List Nat,r.Perm l->r.Pairwise (·<=·)->aQ σ (.list (ai r)) Q):bC σ Q .sorted [.ref p]:=by
 refine .sortL _ h (bk l) (by rw [ah];exact hl) λr hp hs=>?_;refine aZ (fE hp hs) λr' e901 h1 h2=>?_;subst e901;rw [Ea];exact hQ r' h1 h2
theorem cy.lt{σ:aa}{N:Nat}{cls:Nat->Nat}(U:cy σ N cls){a:Nat}(h:a < N):cls a < N:=DC (U.le a) h
theorem lz{α:Type}[BEq α][LawfulBEq α]{l m:List α}(hn:l.Nodup)(h:∀x∈l,x∈m):l.length<=m.length:=by
 induction l generalizing m with
 | nil=>exact Eo _
 | cons x r ih=>
  have hn:=EO.mp hn;have hx:=h x (.head _);have h1:=ih hn.2 (m:=m.erase x) λy hy=>(List.mem_erase_of_ne (λe:y=x=>hn.1 (e▸hy))).mpr (h y (.tail _ hy));rw [List.length_erase_of_mem hx] at h1;exact Le (DC h1 (Nat.sub_lt (List.length_pos_of_mem hx) MU))
theorem aM{N:Nat}{l:List Nat}(hn:l.Nodup)(hb:∀x∈l,x < N):l.length<=N:=by
 have:=lz hn (m:=DV N) λx hx=>D3.mpr (hb x hx)
 simpa using this
theorem cy.wLot{σ σ':aa}{N:Nat}{cls:Nat->Nat}(U:cy σ N cls)(e:σ' .uLots=σ .uLots){a:Nat}(ha:a < N){Q:PV->aa->Prop}(hQ:Q (.ref (.uLot a)) σ'):eg σ' Q (.ref .uLots) (.int (a:Nat)):=
 bH (e.trans U.lots) (DH (DH ha U.small) (by decide)) (by rw [Ef,Gg ha];rfl) hQ
theorem qy{c:Cx}(G:Gd c)(P:aD c){σ:aa}{N:Nat}{cls:Nat->Nat}(U:cy σ N cls){a:Nat}(ha:a < N)(hN:N < 60){Q:PV->aa->Prop}
 (hQ:∀σ' p,Ro σ σ'->σ' p=some (.list (ai (mem N cls (cls a))))->Q (.ref p) σ') (k:Nat):aj c (k+2) .u_members [.ref .unions,.int (a:Nat)] σ Q:=by
 refine aw G P .u_members rfl ?_;have hlt:=U.lt ha;refine ⟨_,rfl,_,U.lts,_,rfl,.fn .u_find,aL U.u rfl rfl,_,rfl,hM G P U ha ?_ k⟩;refine aZ (U.lot _ hlt (U.idem a)) λl l1 l2 l3=>?_;refine U.wLot rfl hlt (nz l1 (DH (DC (aM l2 λx hx=>((l3 x).mp hx).1) hN) (by decide)) λr hr hs=>gE λn hn=>hQ _ _ (Ro.new hn) ?_);rw [gk (iz hs (hr.nodup_iff.mpr l2)) (uD N cls (cls a)) λx=>(hr.mem_iff.trans (l3 x)).trans mem_iff.symm];exact aa.set_self _ _ _
theorem v9{c:Cx}(G:Gd c)(P:aD c){σ:aa}(hu:σ .unions=some (.inst .unions []))(h1:σ .uAbove=none)(h2:σ .uLots=none)(h3:σ .uMerged=none)(h4:∀i,σ (.uLot i)=none){Q:PV->aa->Prop}
 (hQ:∀σ',St (λp=>p=.unions\/cB p) σ σ'->cy σ' 0 (λx=>x)->Q .none σ') (k:Nat):aj c (k+1) .u_init [.ref .unions] σ Q:=by
 refine aw G P .u_init rfl ?_;refine sO .uAbove h1 (hG rfl ((aa.set_ne _ _ (by nofun)).trans hu) (by decide) (by decide) ?_);refine sO .uLots ((aa.set_ne _ _ (by nofun)).trans ((aa.set_ne _ _ (by nofun)).trans h2)) (hG rfl ((aa.set_ne _ _ (by nofun)).trans (aa.set_self _ _ _)) (by decide) (by decide) ?_);refine sO .uMerged ((aa.set_ne _ _ (by nofun)).trans ((aa.set_ne _ _ (by nofun)).trans ((aa.set_ne _ _ (by nofun)).trans ((aa.set_ne _ _ (by nofun)).trans h3)))) (hG rfl ((aa.set_ne _ _ (by nofun)).trans (aa.set_self _ _ _)) (by decide) (by decide) ?_);refine hQ _ ?_ ?_
 · have a1 {σ:aa} {o:PO}:St (λp=>p=.unions\/cB p) σ (σ.set .unions o):=St.put rfl (.inl rfl);have a2 {σ:aa} {o:PO}:St (λp=>p=.unions\/cB p) σ (σ.set .uAbove o):=St.put rfl (.inr (by trivial));have a3 {σ:aa} {o:PO}:St (λp=>p=.unions\/cB p) σ (σ.set .uLots o):=St.put rfl (.inr (by trivial));have a4 {σ:aa} {o:PO}:St (λp=>p=.unions\/cB p) σ (σ.set .uMerged o):=St.put rfl (.inr (by trivial));exact a2.trans (a1.trans (a3.trans (a1.trans (a4.trans a1))))
 · exact {
    u:=aa.set_self _ _ _
    ab:=⟨[],(aa.set_ne _ _ (by nofun)).trans ((aa.set_ne _ _ (by nofun)).trans ((aa.set_ne _ _ (by nofun)).trans ((aa.set_ne _ _ (by nofun)).trans ((aa.set_ne _ _ (by nofun)).trans (aa.set_self _ _ _))))),rfl,λ_ _ h=>absurd h nofun⟩
    lots:=(aa.set_ne _ _ (by nofun)).trans ((aa.set_ne _ _ (by nofun)).trans ((aa.set_ne _ _ (by nofun)).trans (aa.set_self _ _ _)))
    lot:=λa ha=>absurd ha (Fy a)
    free:=λa _=>(aa.set_ne _ _ (by nofun)).trans ((aa.set_ne _ _ (by nofun)).trans ((aa.set_ne _ _ (by nofun)).trans ((aa.set_ne _ _ (by nofun)).trans ((aa.set_ne _ _ (by nofun)).trans ((aa.set_ne _ _ (by nofun)).trans (h4 a))))))
    mg:=⟨[],(aa.set_ne _ _ (by nofun)).trans (aa.set_self _ _ _),DQ _⟩
    le:=λa=>DQ _
    idem:=λ_=>rfl
    out:=λ_ _=>rfl
    small:=by exact by decide}
noncomputable def aO(cls:Nat->Nat)(kept gone:Nat):Nat->Nat:=λx=>if cls x=gone then kept else cls x
theorem fO{N:Nat}{cls:Nat->Nat}{kept gone:Nat}(hk:cls kept=kept)(hg:cls gone=gone)(hlt:kept < gone)(hN:gone < N)(hle:∀a,cls a<=a) :
 cp N (aO cls kept gone)+1=cp N cls:=by
 have key:∀n,((DV n).filter λa=>aO cls kept gone a == a).length+(if gone < n then 1 else 0)=((DV n).filter λa=>cls a == a).length:=by
  intro n;induction n with
  | zero=>simp
  | succ n ih=>
   rw [Gu,Fv,Fv,DG,DG];by_cases e:n=gone
   · subst e;have h1:(aO cls kept n n == n)=false:=by simp [aO,hg];lia
     simp only [Iw,h1,LM];rw [if_neg (Fi _)] at ih;rw [if_pos (D6 _)];simp [hg];lia
   · have h1:(aO cls kept gone n == n)=(cls n == n):=by
      unfold aO;by_cases e2:cls n=gone
      · have:=hle n;rw [if_pos e2,e2];have h3:kept≠n:=by lia
        have h4:gone≠n:=λh=>e h.symm;rw [beq_eq_false_iff_ne.mpr h3,beq_eq_false_iff_ne.mpr h4]
      · rw [if_neg e2]
     simp only [Iw,h1,LM];have h5:(gone < n+1)↔gone < n:=by lia
     simp only [h5];lia
 have:=key N;rw [if_pos hN] at this;exact this
theorem be{cls:Nat->Nat}{x y z:Nat}(h:cls z=y):aO cls x y z=x:=if_pos h
theorem aR{cls:Nat->Nat}{x y z:Nat}(h:cls z≠y):aO cls x y z=cls z:=if_neg h
theorem iA{a b c n:Nat}(h:b+1=c)(g:a+c<=n):a+1+b<=n:=by lia
theorem cy.merge{σ σ':aa}{N:Nat}{cls:Nat->Nat}(U:cy σ N cls){x y:Nat}(hlt:x < y)(hyN:y < N)(hcx:cls x=x)(hcy:cls y=y){ab:List Nat}(h2:ab.length=N)
 (h3:∀a b,ab[a]? = some b->b<=a/\cls b=cls a/\(cls a=a↔b=a)) {lx ly:List Nat} (x2:lx.Nodup) (x3:∀z,z∈lx↔z < N/\cls z=x) (y2:ly.Nodup) (y3:∀z,z∈ly↔z < N/\cls z=y)
 {mg:List PV} (hm:mg.length+cp N cls<=N) {v:PV} (f:∀p,p≠.uAbove->p≠.uLot x->p≠.uMerged->σ' p=σ p) (g1:σ' .uAbove=some (.list (ai (ab.set y x))))
 (g2:σ' (.uLot x)=some (.list (ai (lx ++ ly)))) (g3:σ' .uMerged=some (.list (mg ++ [v]))):cy σ' N (aO cls x y) where
 u:=(f _ (by nofun) (by nofun) (by nofun)).trans U.u
 ab:=⟨ab.set y x,g1,List.length_set.trans h2,λp q hpq=>by
  rw [List.getElem?_set] at hpq;by_cases e:y=p
  · rw [if_pos e,if_pos (h2.symm▸hyN)] at hpq;rw [← e,← DN hpq,be hcy,aR (hcx.symm▸D1 hlt),hcx];exact ⟨D9 hlt,rfl,Iff.rfl⟩
  · rw [if_neg e] at hpq;have g:=h3 p q hpq;refine ⟨g.1,by unfold aO;rw [g.2.1],?_⟩;by_cases e4:cls p=y
    · rw [be e4];exact iff_of_false (λh=>HE.mpr hlt (e4▸h▸U.le p)) λh=>e (e4.symm.trans (g.2.2.mpr h))
    · rw [aR e4];exact g.2.2⟩
 lots:=(f _ (by nofun) (by nofun) (by nofun)).trans U.lots
 lot:=λp hp hc=>by
  by_cases e4:p=x
  · refine ⟨lx ++ ly,e4▸g2,EV.mpr ⟨x2,y2,λz hz w hw h=>D1 hlt (((x3 z).mp hz).2.symm.trans (h▸((y3 w).mp hw).2))⟩,λz=>?_⟩;rw [Eb,x3,y3,e4];by_cases e5:cls z=y
    · rw [be e5];exact ⟨λh=>⟨h.elim (·.1) (·.1),rfl⟩,λh=>.inr ⟨h.1,e5⟩⟩
    · rw [aR e5];exact ⟨λh=>h.elim id λh=>(e5 h.2).elim,.inl⟩
  · have hp2:cls p≠y:=λh=>e4 (hc.symm.trans (be h));rw [aR hp2] at hc;refine aZ (U.lot p hp hc) λl l1 l2 l3=>⟨l,(f _ (by nofun) (λq=>e4 (al.uLot.inj q)) (by nofun)).trans l1,l2,λz=>(l3 z).trans ?_⟩;by_cases e5:cls z=y
    · rw [be e5];exact iff_of_false (λh=>hp2 (hc.trans (h.2.symm.trans e5))) λh=>e4 h.2.symm
    · rw [aR e5]
 free:=λp hp=>(f _ (by nofun) (λq=>absurd (al.uLot.inj q▸hp) (HE.mpr (DH hlt hyN))) (by nofun)).trans (U.free p hp)
 mg:=⟨_,g3,by rw [DG];exact iA (fO hcx hcy hlt hyN U.le) hm⟩
 le:=λp=>by
  by_cases e5:cls p=y
  · rw [be e5];exact DM (D9 hlt) (e5▸U.le p)
  · rw [aR e5];exact U.le p
 idem:=λp=>by
  by_cases e5:cls p=y
  · rw [be e5];exact (aR (hcx.symm▸D1 hlt)).trans hcx
  · rw [aR e5];exact (aR λh=>e5 ((U.idem p).symm.trans h)).trans (U.idem p)
 out:=λp hp=>(aR λh=>absurd (h.symm.trans (U.out p hp)) (D1 (DI hyN hp))).trans (U.out p hp)
 small:=U.small
theorem x4{σ:aa}{p:al}{a b:Nat}{Q:PV->aa->Prop}(h:σ p=some (.list (ai [a,b])))(hQ:∀x y:Nat,x<=y->(x=a/\y=b\/x=b/\y=a)->aQ σ (.list (ai [x,y])) Q):bC σ Q .sorted [.ref p]:=by
 refine nz h (show 2 < 64 by decide) λr hr hs=>?_
 match r,hr.length_eq with
 | [x,y],_=>
  refine hQ x y ((GQ.mp hs).1 y (.head _)) ?_;by_cases e:x=a
  · exact .inl ⟨e,DS.mp ((Md a).mp (e▸hr) |>.mem_iff.mp (.head _))⟩
  · have hx:x=b:=DS.mp ((D5.mp (hr.mem_iff.mp (.head _))).resolve_left e);exact .inr ⟨hx,DS.mp ((Md b).mp (hx▸hr.trans (.swap b a [])) |>.mem_iff.mp (.head _))⟩
theorem CH{σ:aa}{p:al}{l:List Nat}{a x:Nat}{Q:aa->Prop}(h:σ p=some (.list (ai l)))(ha:a < 2 ^ 60)(hl:a < l.length)(hQ:Q (σ.set p (.list (ai (l.set a x))))):eh σ Q (.int (x:Nat)) (.ref p) (.int (a:Nat)):=
 zh h ha (by rw [ah];exact hl) (by rw [ai,← List.map_set];exact hQ)
theorem zl{σ:aa}{p q:al}{l l':List Nat}{Q:PV->aa->Prop}(h:σ p=some (.list (ai l)))(h':σ q=some (.list (ai l')))(hl:l.length+l'.length < ay)(hQ:Q .none (σ.set p (.list (ai (l ++ l'))))):cb σ Q .lExtend (.ref p) [.ref q]:=
 .ext h h' (by rw [ah,ah];exact hl) (by rw [ai,ai,← D4];exact hQ)
theorem uE{c:Cx}(G:Gd c)(P:aD c){σ:aa}{N:Nat}{cls:Nat->Nat}(U:cy σ N cls){a b:Nat}(ha:a < N)(hb:b < N){Q:PV->aa->Prop}
 (hQ0:cls a=cls b->∀σ',Ro σ σ'->Q .none σ')
 (hQ:∀kept gone,kept < gone->(kept=cls a/\gone=cls b\/kept=cls b/\gone=cls a)->∀σ',St cB σ σ'->cy σ' N (aO cls kept gone)->Q (.tup [.int (kept:Nat),.int (gone:Nat)]) σ') (k:Nat) :
 aj c (k+2) .u_merge [.ref .unions,.int (a:Nat),.int (b:Nat)] σ Q:=by
 refine aw G P .u_merge rfl ?_;refine ⟨_,rfl,_,aL U.u rfl rfl,_,rfl,hM G P U ha ⟨_,rfl,_,aL U.u rfl rfl,_,rfl,hM G P U hb ?_ k⟩ k⟩;refine gE λn1 hn1=>x4 (aa.set_self _ _ _) λx y hxy hc=>gE λn2 hn2=>⟨[.int (x:Nat),.int (y:Nat)],congrArg (·.bind lP) (aa.set_self _ _ _),rfl,_,rfl,_,rfl,eW ?_⟩;have R:=(Ro.new (o:=.list (ai [cls a,cls b])) hn1).trans (Ro.new (I:=λ_=>False) (o:=.list (ai [x,y])) hn2);by_cases e:x=y
 · exact iT (beq_iff_eq.mpr e) (hQ0 (hc.elim (λh=>h.1.symm.trans (e.trans h.2)) λh=>h.2.symm.trans (e.symm.trans h.1)) _ R)
 refine iB (beq_eq_false_iff_ne.mpr e) ?_;have hlt:=HH hxy e;have hx:cls x=x:=hc.elim (λh=>h.1▸U.idem _) λh=>h.1▸U.idem _;have hy:cls y=y:=hc.elim (λh=>h.2▸U.idem _) λh=>h.2▸U.idem _;have hyN:y < N:=hc.elim (λh=>h.2▸U.lt hb) λh=>h.2▸U.lt ha;have hxN:=DH hlt hyN;have U₁:=U.ro R;refine aZ U₁.ab λab h1 h2 h3=>aZ (U₁.lot x hxN hx) λlx x1 x2 x3=>aZ (U₁.lot y hyN hy) λly y1 y2 y3=>aN U₁.mg λmg m1 m2=>?_;refine ⟨_,rfl,_,rfl,_,U₁.abv,_,rfl,CH h1 (DH (DH hyN U.small) (by decide)) (h2.symm▸hyN) ?_⟩;refine ⟨_,rfl,_,a9 ((aa.set_ne _ _ (by nofun)).trans U₁.u) rfl,_,rfl,U₁.wLot (aa.set_ne _ _ (by nofun)) hxN ⟨_,fe ((aa.set_ne _ _ (by nofun)).trans x1) rfl,_,rfl,_,a9 ((aa.set_ne _ _ (by nofun)).trans U₁.u) rfl,_,rfl,U₁.wLot (aa.set_ne _ _ (by nofun)) hyN ?_⟩⟩;have hN:N < 5000:=DH U.small (by decide);refine zl ((aa.set_ne _ _ (by nofun)).trans x1) ((aa.set_ne _ _ (by nofun)).trans y1) (au (Kg (DC (aM x2 λz hz=>((x3 z).mp hz).1) hN) (DC (aM y2 λz hz=>((y3 z).mp hz).1) hN))) ?_;have gm:=(aa.set_ne _ (.list (ai (lx ++ ly))) (by nofun:al.uMerged≠.uLot x)).trans ((aa.set_ne _ (.list (ai (ab.set y x))) (by nofun:al.uMerged≠.uAbove)).trans m1);refine ⟨_,rfl,_,a9 ((aa.set_ne _ _ (by nofun)).trans ((aa.set_ne _ _ (by nofun)).trans U₁.u)) rfl,.lAppend,fe gm rfl,_,rfl,_,rfl,cb.app gm (au (DC (DM (Ed _ _) m2) (DH U.small (by decide)))) ⟨_,rfl,_,rfl,hQ x y hlt hc _ ?_ ?_⟩⟩
 · exact (Ro.weak R).trans ((St.put rfl trivial).trans ((St.put rfl trivial).trans (St.put rfl trivial)))
 · exact U₁.merge hlt hyN hx hy h2 h3 x2 x3 y2 y3 m2 (λp a b c=>(aa.set_ne _ _ c).trans ((aa.set_ne _ _ b).trans (aa.set_ne _ _ a))) ((aa.set_ne _ _ (by nofun)).trans ((aa.set_ne _ _ (by nofun)).trans (aa.set_self _ _ _))) ((aa.set_ne _ _ (by nofun)).trans (aa.set_self _ _ _)) (aa.set_self _ _ _)
noncomputable def sP:Str:=Dy "()[]{},:"
noncomputable def fX(s:Str):Bool:=decide (s.length < 1000) && decide (0 < s.length) && Ff s && (s.cps.toList.all λc=>!Txt.isspace ⟨#[c]⟩ && !Txt.contains sP ⟨#[c]⟩) &&
 Ff (KQ s 0) && decide (KQ s 0≠Dy "?")
noncomputable def aF(x:Str×List Nat):PV:=.tup (.str x.1::ai x.2)
structure d6(σ:aa)(nd:List (Str×List Nat)):Prop where
 b:σ .bank=some (.inst .bank [("nodes",.ref .bNodes),("numbers",.ref .bNumbers),("weights",.ref .bWeights),("depths",.ref .bDepths)])
 nodes:σ .bNodes=some (.list (nd.map aF))
 numbers:σ .bNumbers=some (.dict (nd.zipIdx.map λx=>(aF x.1,.int (x.2:Nat))))
 weights:∃ws:List Nat,σ .bWeights=some (.list (ai ws))/\ws.length=nd.length/\∀i w,ws[i]? = some w->w < 2 ^ (i+1)
 depths:∃ws:List Nat,σ .bDepths=some (.list (ai ws))/\ws.length=nd.length
 kids:∀(i:Nat) (op:Str) (ks:List Nat),nd[i]? = some (op,ks)->fX op=true/\ks.length<=2/\∀k∈ks,k < i
 nodup:nd.Nodup
 small:nd.length < 60
noncomputable def bW:al->Prop
 | .bNodes | .bNumbers | .bWeights | .bDepths=>True
 | _=>False
theorem bW.isLoc(p:al):bW p->p.isLoc=false:=by
 cases p with
 | loc _=>exact G9
 | _=>exact λ_=>rfl
theorem d6.of_eq{σ σ':aa}{nd:List (Str×List Nat)}(B:d6 σ nd)(h:∀p,(p=.bank\/bW p)->σ' p=σ p):d6 σ' nd where
 b:=by rw [h _ (.inl rfl)];exact B.b
 nodes:=by rw [h _ (.inr (by trivial))];exact B.nodes
 numbers:=by rw [h _ (.inr (by trivial))];exact B.numbers
 weights:=by rw [h _ (.inr (by trivial))];exact B.weights
 depths:=by rw [h _ (.inr (by trivial))];exact B.depths
 kids:=B.kids
 nodup:=B.nodup
 small:=B.small
theorem d6.ro{σ σ':aa}{nd:List (Str×List Nat)}(B:d6 σ nd)(h:Ro σ σ'):d6 σ' nd:=
 B.of_eq λp hp=>h.at (hp.elim (λe=>e▸rfl) (bW.isLoc p))
theorem iS{a b:Str}{σ:aa}{K:Bool->Prop}(ha:Ff a=true)(hb:Ff b=true)(h:K (aG (.str a) (.str b))):bc σ K .Eq (.str a) (.str b):=.eq (.pl ha hb (Eo _) h)
theorem BE{a b:Str}{σ:aa}{K:Bool->Prop}(ha:Ff a=true)(hb:Ff b=true)(h:K !(aG (.str a) (.str b))):bc σ K .NotEq (.str a) (.str b):=.ne (.pl ha hb (Eo _) h)
structure Di(s:Str):Prop where
 len:s.length < 1000
 pos:0 < s.length
 ok:Ff s=true
 all:∀c∈s.cps.toList,MG ⟨#[c]⟩=false/\HX sP ⟨#[c]⟩=false
 ok0:Ff (KQ s 0)=true
 ne0:KQ s 0≠Dy "?"
theorem sQ{s:Str}(h:fX s=true):Di s:=by
 rw [fX,FA,FA,FA,FA,FA,Et] at h;exact ⟨of_decide_eq_true h.1.1.1.1.1,of_decide_eq_true h.1.1.1.1.2,h.1.1.1.2,λc hc=>(DP.mp (h.1.1.2 c hc)).imp (Ic _).mp (Ic _).mp,h.1.2,of_decide_eq_true h.2⟩
theorem x5{c:Cx}(G:Gd c)(P:aD c){σ:aa}{s:Str}(hs:fX s=true){Q:PV->aa->Prop}(hQ:∀σ',Ro σ σ'->Q (.bool true) σ')(k:Nat):aj c (k+1) .is_op [.str s] σ Q:=by
 refine aw G P .is_op rfl ?_;have O:=sQ hs;have hne:aG (.str s) (.str (Dy ""))=false:=aC λe=>absurd (PV.str.inj e▸O.pos) (by decide);refine ⟨_,rfl,BE O.ok (by decide +kernel) ?_⟩;rw [hne];have hl:s.cps.toList.length < ay:=au (DH O.len (by decide));refine ⟨_,rfl,.str (au (DH O.len (by decide))) (fM (λx=>x) (λ_=>false) (λ_ _=>trivial) ((DD _).symm▸hl) (λx hx=>?_) λσ' hr=>?_)⟩
 · refine (DO.mp hx).elim λch q=>q.2▸⟨_,rfl,λσ' hr P1 P0 hp1 hp0=>?_⟩;have a:=O.all ch q.1;refine ⟨_,rfl,.sIsspace,rfl,.sp ?_⟩;rw [a.1];refine ⟨_,rfl,.in_ (.str rfl ?_)⟩;rw [show HX (Dy "()[]{},:") ⟨#[ch]⟩=false from a.2];exact iB rfl (hp0 rfl _ hr)
 · have e:Jb (λx:PV=>x) (LA (λ_=>false) (Jb (λc=>PV.str ⟨#[c]⟩) s.cps.toList))=[]:=by rw [HW.mpr λ_ _=>DY];rfl
   rw [e];refine gE λn hn=>gE λm hm=>?_;have hnm:al.loc n≠.loc m:=λe=>Eh _ ((aa.set_self σ' (.loc n) _).symm.trans ((congrArg _ e).trans hm));exact .eq (.li ((aa.set_ne _ _ hnm).trans (aa.set_self _ _ _)) (aa.set_self _ _ _) rfl rfl (Eo _) ((aJ _).symm▸hQ _ ((hr.trans (Ro.new hn)).trans (Ro.new hm))))
theorem qz{c:Cx}(G:Gd c)(P:aD c){σ:aa}{s:Str}{v:PV}(hs:fX s=true){Q:PV->aa->Prop}(hQ:∀σ',Ro σ σ'->Q .none σ')(k:Nat):aj c (k+2) .b_require [v,.str s] σ Q:=by
 refine aw G P .b_require rfl ?_;have O:=sQ hs;refine ⟨_,rfl,x5 G P hs (λσ' hr=>⟨_,rfl,.str (F9 0) (EG.mpr O.pos) (au (DH O.len (by decide))) (iS O.ok0 (by decide +kernel) ?_)⟩) k⟩;rw [aC λq=>O.ne0 (PV.str.inj q)];exact hQ _ hr
theorem wa{c:Cx}(G:Gd c)(P:aD c){σ:aa}{nd:List (Str×List Nat)}(B:d6 σ nd){Q:PV->aa->Prop}(hQ:Q (.int (nd.length:Nat)) σ)(k:Nat):aj c (k+1) .b_size [.ref .bank] σ Q:=by
 refine aw G P .b_size rfl ?_;exact ⟨_,rfl,.ref .bNodes,a9 B.b rfl,cL B.nodes (DD _) (DH B.small (by decide)) hQ⟩
theorem d6.node{σ:aa}{nd:List (Str×List Nat)}(B:d6 σ nd){i:Nat}{x:Str×List Nat}(hi:nd[i]? = some x){Q:PV->aa->Prop}(hQ:Q (aF x) σ):eg σ Q (.ref .bNodes) (.int (i:Nat)):=
 bH B.nodes (DH (DH (DR.mp hi).1 B.small) (by decide)) (by rw [Ef,hi];rfl) hQ
theorem sR{c:Cx}(G:Gd c)(P:aD c){σ:aa}{nd:List (Str×List Nat)}(B:d6 σ nd){i:Nat}{op:Str}{ks:List Nat}(hi:nd[i]? = some (op,ks)){Q:PV->aa->Prop}(hQ:Q (.str op) σ)(k:Nat):aj c (k+1) .b_op [.ref .bank,.int (i:Nat)] σ Q:=by
 refine aw G P .b_op rfl ?_;exact ⟨_,rfl,.ref .bNodes,a9 B.b rfl,_,rfl,B.node hi (.tup (F9 0) (by decide) rfl hQ)⟩
theorem jI{c:Cx}(G:Gd c)(P:aD c){σ:aa}{nd:List (Str×List Nat)}(B:d6 σ nd){i:Nat}{op:Str}{ks:List Nat}(hi:nd[i]? = some (op,ks)){Q:PV->aa->Prop}(hQ:Q (.tup (ai ks)) σ)(k:Nat):aj c (k+1) .b_kids [.ref .bank,.int (i:Nat)] σ Q:=by
 refine aw G P .b_kids rfl ?_;have hk:(ai ks).length<=2:=(ah ks).symm▸(B.kids i op ks hi).2.1;exact ⟨_,rfl,.ref .bNodes,a9 B.b rfl,_,rfl,B.node hi ⟨by decide,by decide,.tup (DQ 1) (GV _ _) (au (DC (Ei hk) (by decide))) hQ⟩⟩
theorem Dj{chk:aa->Prop}{t:Tg}{body:af->aa->(af->aa->Prop)->(PV->aa->Prop)->Prop}{Qn:af->aa->Prop}{Qr:PV->aa->Prop}(I:List PV->af->aa->Prop)
 (step:∀x r ρ σ,I (x::r) ρ σ->chk σ/\∃ρ',t.bind x ρ=some ρ'/\∀P:af->aa->Prop,(∀ρ'' σ'',I r ρ'' σ''->P ρ'' σ'')->body ρ' σ P Qr)
 (fin:∀ρ σ,I [] ρ σ->chk σ/\Qn ρ σ):∀(l:List PV) (ρ:af) (σ:aa),I l ρ σ->gi chk t body l ρ σ Qn Qr:=by
 intro l;induction l with
 | nil=>exact fin
 | cons x r ih=>exact λρ σ h=>have s:=step x r ρ σ h;⟨s.1,s.2.elim λρ' q=>⟨ρ',q.1,q.2 _ ih⟩⟩
theorem br{α:Type}(f:α->PV){chk:aa->Prop}{t:Tg}{body:af->aa->(af->aa->Prop)->(PV->aa->Prop)->Prop}{Qn:af->aa->Prop}{Qr:PV->aa->Prop}(I:List α->af->aa->Prop)
 (step:∀x r ρ σ,I (x::r) ρ σ->chk σ/\∃ρ',t.bind (f x) ρ=some ρ'/\∀P:af->aa->Prop,(∀ρ'' σ'',I r ρ'' σ''->P ρ'' σ'')->body ρ' σ P Qr)
 (fin:∀ρ σ,I [] ρ σ->chk σ/\Qn ρ σ):∀(l:List α) (ρ:af) (σ:aa),I l ρ σ->gi chk t body (l.map f) ρ σ Qn Qr:=by
 intro l;induction l with
 | nil=>exact fin
 | cons x r ih=>exact λρ σ h=>have s:=step x r ρ σ h;⟨s.1,s.2.elim λρ' q=>⟨ρ',q.1,q.2 _ ih⟩⟩
theorem i6{α:Type}(f:α->PV){chk:aa->Prop}{bnd:PV->Option af}{tst:af->aa->(Bool->aa->Prop)->Prop}{elt:af->aa->(PV->aa->Prop)->Prop}{Q:List PV->aa->Prop}
 (I:List α->List PV->aa->Prop)
 (step:∀x r acc σ,I (x::r) acc σ->chk σ/\acc.length < ay/\∃ρ,bnd (f x)=some ρ/\∀P:List PV->aa->Prop,(∀acc' σ',I r acc' σ'->P acc' σ')->
  tst ρ σ λb σ1=>if b=true then elt ρ σ1 λv σ2=>P (acc ++ [v]) σ2 else P acc σ1)
 (fin:∀acc σ,I [] acc σ->chk σ/\Q acc σ):∀(l:List α) (acc:List PV) (σ:aa),I l acc σ->cn chk bnd tst elt (l.map f) acc σ Q:=by
 intro l;induction l with
 | nil=>exact fin
 | cons x r ih=>exact λacc σ h=>have s:=step x r acc σ h;⟨s.1,s.2.1,s.2.2.elim λρ q=>⟨ρ,q.1,q.2 _ ih⟩⟩
theorem jJ(l:List Nat):fJ (ai l):=by
 induction l with
 | nil=>exact trivial
 | cons x r ih=>exact ⟨trivial,ih⟩
theorem gG(l:List Nat):aP (ai l)=0:=by
 induction l with
 | nil=>rfl
 | cons x r ih=>exact (Nat.zero_max _).trans ih
theorem jK(l:List Nat):∀l':List Nat,eR (ai l) (ai l'):=by
 induction l with
 | nil=>exact λ_=>trivial
 | cons x r ih=>exact fun
  | []=>trivial
  | y::r'=>⟨⟨rfl,rfl⟩,ih r'⟩
theorem uF(x:Str×List Nat):cY (aF x):=⟨trivial,jJ _⟩
theorem ml(x:Str×List Nat):aK (aF x)<=8:=by
 show max 0 (aP (ai x.2))+1<=8;rw [gG];decide
theorem uG(x y:Str×List Nat):cZ (aF x) (aF y):=⟨⟨rfl,rfl⟩,jK _ _⟩
theorem oA{l l':List Nat}(h:ai l=ai l'):l=l':=
 IZ (λ_ _ e=>Fk (PV.int.inj e)) |>.mp h
theorem dP{x y:Str×List Nat}(h:aF x=aF y):x=y:=
 have e:=ES (PV.tup.inj h)
 MV (PV.str.inj e.1) (oA e.2)
theorem qA{α:Type}(l:List α)(f:α->Str×List Nat)(g:α->PV)(y:Str×List Nat):DK (l.map λx=>(aF (f x),g x)) (aF y):=by
 refine ⟨uF _,ml _,λkv h=>?_⟩;rw [DO] at h;obtain ⟨x,_,rfl⟩:=h;exact ⟨uG _ _,ml _⟩
theorem dD{d:List (PV×PV)}{x:PV}(h:∀kv∈d,kv.1≠x):aB d x=none:=by
 induction d with
 | nil=>rfl
 | cons kv r ih=>
  obtain ⟨k,v⟩:=kv;unfold aB;rw [aC (h (k,v) EJ)];simp only [Gq,if_false];exact ih λkv hm=>h kv (E3 _ hm)
theorem cG{d:List (PV×PV)}{x y:PV}(hn:(d.map (·.1)).Nodup)(h:(x,y)∈d):aB d x=some y:=by
 induction d with
 | nil=>simp at h
 | cons kv r ih=>
  obtain ⟨k,v⟩:=kv;unfold aB;rw [E1,EO] at hn;rw [D5] at h;rcases h with h | h
  · injection h with h1 h2
    subst h1 h2;rw [aJ];rfl
  · have:k≠x:=λe=>hn.1 (e▸DO.mpr ⟨_,h,rfl⟩);rw [aC this];simp only [Gq,if_false];exact ih hn.2 h
theorem i7{d:List (PV×PV)}{x y:PV}(h:∀kv∈d,kv.1≠x):bB d x y=d ++ [(x,y)]:=by
 induction d with
 | nil=>rfl
 | cons kv r ih=>
  obtain ⟨k,v⟩:=kv;unfold bB;rw [aC (h (k,v) EJ)];simp only [Gq,if_false,List.cons_append];rw [ih λkv hm=>h kv (E3 _ hm)]
noncomputable def dQ(nd:List (Str×List Nat)):List (PV×PV):=nd.zipIdx.map λx=>(aF x.1,.int (x.2:Nat))
theorem mn(nd:List (Str×List Nat)):(dQ nd).map (·.1)=nd.map aF:=by
 unfold dQ;rw [Ea];have:((λx:PV×PV=>x.1)∘λx:(Str×List Nat)×Nat=>(aF x.1,PV.int (x.2:Nat)))=aF∘Jd:=rfl;rw [this,← Ea,List.zipIdx_map_fst]
theorem fP{α β:Type}{f:α->β}(hf:∀x y,f x=f y->x=y){l:List α}(h:l.Nodup):(l.map f).Nodup:=by
 rw [Gr,E5];exact (Gr.mp h).imp λh e=>h (hf _ _ e)
theorem wb{nd:List (Str×List Nat)}(hn:nd.Nodup){i:Nat}{x:Str×List Nat}(h:nd[i]? = some x):aB (dQ nd) (aF x)=some (.int (i:Nat)):=by
 refine cG (by rw [mn];exact fP (λ_ _=>dP) hn) ?_;unfold dQ;rw [DO];exact ⟨(x,i),GW.mpr h,rfl⟩
theorem wc{nd:List (Str×List Nat)}{x:Str×List Nat}(h:x∉nd):∀kv∈dQ nd,kv.1≠aF x:=by
 intro kv hm e;have:kv.1∈(dQ nd).map (·.1):=DO.mpr ⟨kv,hm,rfl⟩;rw [mn,DO] at this;obtain ⟨y,hy,e2⟩:=this;rw [e] at e2;exact h (dP e2▸hy)
theorem nA(nd:List (Str×List Nat))(x:Str×List Nat):DK (dQ nd) (aF x):=qA nd.zipIdx (·.1) _ x
theorem x6(l:List Nat):(l.map λ(x:Nat)=>(x:Int)).sum=((l.sum:Nat):Int):=by
 induction l with
 | nil=>rfl
 | cons x r ih=>rw [E1,Ju,Ju,ih];exact (LJ _ _).symm
theorem Dk{σ:aa}{p:al}{l:List Nat}{Q:PV->aa->Prop}(h:σ p=some (.list (ai l)))(hl:l.length < ay)(hs:l.sum < 2 ^ 61)(hQ:Q (.int (l.sum:Nat)) σ):bC σ Q .sum [.ref p]:=by
 have e:=x6 l;exact .sum _ h (bk l) ((ah l).symm▸hl) (λn hn=>(DO.mp hn).elim λx q=>q.2▸EL _) (by rw [e];lia) (e.symm▸hQ)
theorem Dl{σ:aa}{p:al}{l:List Nat}{Q:PV->aa->Prop}(h:σ p=some (.list (ai l)))(hl:l.length < ay)(hs:l≠[])(hQ:∀m:Nat,m∈l->Q (.int (m:Nat)) σ):bC σ Q .max [.ref p]:=by
 exact .max _ h (bk l) ((ah l).symm▸hl) (λe=>hs (Gf.mp e)) λm hm _=>(DO.mp hm).elim λx q=>q.2▸hQ x q.1
theorem fQ{l:List PV}{σ:aa}{Q:PV->aa->Prop}{x:PV}(hl:l.length+1 < ay)(hQ:Q (.tup l) σ):(0:Int)<=1/\(1:Int) < 1000/\iL σ Q (1:Int).toNat (.tup (x::l)):=
 ⟨by decide,by decide,.tup (DQ 1) (GV _ _) hl hQ⟩
theorem we{ws:List Nat}(hw:∀(i w:Nat),ws[i]? = some w->w < 2 ^ (i+1)){n:Nat}(hn:ws.length=n)(h60:n < 60){l:List Nat}(h2:l.length<=2)(hl:∀x∈l,x∈ws):l.sum+1 < 2 ^ (n+1):=by
 have hb:∀x∈ws,x+1<=2 ^ n:=λx hx=>(FI.mp hx).elim λi e=>
  DI (hw i x e) (IJ (by decide) (hn▸(DR.mp e).1))
 have h0:1<=2 ^ n:=Nat.pow_pos (by decide);clear h60 hn hw;rw [MB];generalize 2 ^ n=N at hb h0;cases l with
 | nil=>exact DI Nat.one_lt_two (Nat.mul_le_mul_right 2 h0)
 | cons x l=>
  have h3:=hb x (hl x (.head _));cases l with
  | nil=>clear hb hl;show x+0+1 < N*2;lia
  | cons y l=>
   have h4:=hb y (hl y (.tail _ (.head _)));cases l with
   | nil=>clear hb hl;show x+(y+0)+1 < N*2;lia
   | cons z l=>exact absurd h2 (HE.mpr (GV 3 l.length))
theorem Dm{v:PV}{p:al}{d:List (PV×PV)}{σ:aa}{K:Bool->Prop}(hp:σ p=some (.dict d))(hd:DK d v)(h:K (aB d v).isSome):bc σ K .In v (.ref p):=.in_ (.di hp hd h)
theorem sS{v:PV}{p:al}{d:List (PV×PV)}{σ:aa}{K:Bool->Prop}(hp:σ p=some (.dict d))(hd:DK d v)(h:K !(aB d v).isSome):bc σ K .NotIn v (.ref p):=.ni (.di hp hd h)
theorem bz{v x:PV}{p:al}{d:List (PV×PV)}{σ:aa}{Q:PV->aa->Prop}(hp:σ p=some (.dict d))(hd:DK d v)(hx:aB d v=some x)(h:Q x σ):eg σ Q (.ref p) v:=.di hp hd hx h
theorem zm{v x:PV}{p:al}{d:List (PV×PV)}{σ:aa}{Q:aa->Prop}(hp:σ p=some (.dict d))(hd:DK d v)(hl:d.length < ay)(h:Q (σ.set p (.dict (bB d v x)))):eh σ Q x (.ref p) v:=.di hp hd hl h
theorem gu{v x:PV}{p:al}{d:List (PV×PV)}{σ:aa}{Q:aa->Prop}(hp:σ p=some (.dict d))(hd:DK d v)(hl:d.length < ay)(hn:∀kv∈d,kv.1≠v)(h:∀σ',bL σ p (.dict (d ++ [(v,x)])) σ'->Q σ'):eh σ Q x (.ref p) v:=
 .di hp hd hl (h _ (i7 hn▸upd _ _ _))
theorem ke{σ:aa}{p:al}{l:List PV}{x:PV}{Q:PV->aa->Prop}(h:σ p=some (.list l))(hl:l.length < ay)(hQ:∀σ',bL σ p (.list (l ++ [x])) σ'->Q .none σ'):cb σ Q .lAppend (.ref p) [x]:=.app h hl (hQ _ (upd _ _ _))
theorem mo{σ:aa}{p:al}{l:List Nat}{n:Nat}{i:Int}{Q:PV->aa->Prop}(e:i=(n:Nat))(h:σ p=some (.list (ai l)))(hl:l.length < 10000)(hQ:∀σ',bL σ p (.list (ai (l ++ [n]))) σ'->Q .none σ'):cb σ Q .lAppend (.ref p) [.int i]:=
 e▸zj h (au hl) (hQ _ (upd _ _ _))
theorem cW{l:List PV}{σ:aa}{K:(aa->Prop)->List PV->Prop}(hl:l.length < ay)(h:K (λ_=>True) l):gy σ K (.tup l):=.tup hl h
theorem cz{p:al}{l:List PV}{σ:aa}{K:(aa->Prop)->List PV->Prop}(hp:σ p=some (.list l))(hl:l.length < ay)(h:K (λσ'=>σ' p=some (.list l)) l):gy σ K (.ref p):=.li hp hl h
theorem sT{i j:Int}{σ:aa}{K:Bool->Prop}(h:K (decide (i < j))):bc σ K .Lt (.int i) (.int j):=.lt h
theorem wLe{i j:Int}{σ:aa}{K:Bool->Prop}(h:K (decide (i<=j))):bc σ K .LtE (.int i) (.int j):=.le h
theorem wGt{i j:Int}{σ:aa}{K:Bool->Prop}(h:K (decide (j < i))):bc σ K .Gt (.int i) (.int j):=.gt h
theorem Af(f:Nat->PV)(ks:List Nat):Jb (λx:PV=>match x with | .int i=>f i.toNat | _=>.none) (ai ks)=ks.map f:=Ea
theorem dg{chk:aa->Prop}{bnd:PV->Option af}{tst:af->aa->(Bool->aa->Prop)->Prop}{elt:af->aa->(PV->aa->Prop)->Prop}{Q:List PV->aa->Prop}{σ:aa}{ks:List Nat}
 (f:Nat->PV) (hc:∀σ',Ro σ σ'->chk σ') (hl:ks.length < ay)
 (h:∀a∈ks,∃ρ,bnd (.int (a:Nat))=some ρ/\∀σ',Ro σ σ'->∀(P1:PV->aa->Prop) (P0:aa->Prop),(∀σ'',Ro σ σ''->P1 (f a) σ'')->tst ρ σ' λb σ1=>if b=true then elt ρ σ1 P1 else P0 σ1)
 (hQ:∀σ',Ro σ σ'->Q (ks.map f) σ'):cn chk bnd tst elt (ai ks) [] σ Q:=
 fM (λx=>match x with | .int i=>f i.toNat | _=>.none) (λ_=>true) hc (by rw [ah];exact hl)
  (λx hx=>(DO.mp hx).elim λa q=>q.2▸(h a q.1).elim λρ g=>⟨ρ,g.1,λσ' hr P1 P0 hp1 _=>g.2 σ' hr P1 P0 (hp1 rfl)⟩)
  λσ' hr=>by rw [Ks.mpr λ_ _=>rfl,Af];exact hQ σ' hr
theorem lA{chk:aa->Prop}{bnd:PV->Option af}{tst:af->aa->(Bool->aa->Prop)->Prop}{elt:af->aa->(PV->aa->Prop)->Prop}{Q:PV->aa->Prop}{σ:aa}{ks:List Nat}
 (g:Nat->Nat) (hc:∀σ',Ro σ σ'->chk σ') (hl:ks.length < ay)
 (h:∀a∈ks,∃ρ,bnd (.int (a:Nat))=some ρ/\∀σ',Ro σ σ'->∀(P1:PV->aa->Prop) (P0:aa->Prop),(∀σ'',Ro σ σ''->P1 (.int (g a:Nat)) σ'')->tst ρ σ' λb σ1=>if b=true then elt ρ σ1 P1 else P0 σ1)
 (hQ:∀n σ',Ro σ σ'->σ' (.loc n)=some (.list (ai (ks.map g)))->Q (.ref (.loc n)) σ'):cn chk bnd tst elt (ai ks) [] σ λvs σ2=>aQ σ2 (.list vs) Q:=
 dg (λa=>.int (g a:Nat)) hc hl h λσ' hr=>bo λn σ'' hr' e=>hQ n σ'' (hr.trans hr') (e.trans (by rw [ai,Ea];rfl))
theorem uH(nd:List (Str×List Nat))(x:Str×List Nat):dQ nd ++ [(aF x,.int (nd.length:Nat))]=dQ (nd ++ [x]):=by
 rw [dQ,dQ,KJ,D4,FK];rfl
theorem d6.take{σ σ':aa}{nd:List (Str×List Nat)}(B:d6 σ nd)(hsm:nd.length+1 < 60){op:Str}{ks:List Nat}(ho:fX op=true)(hk2:ks.length<=2)(hk:∀x∈ks,x < nd.length)(hm0:(op,ks)∉nd)
 {ws ds:List Nat} {w d:Nat} (w2:ws.length=nd.length) (w3:∀i w,ws[i]? = some w->w < 2 ^ (i+1)) (hw:w < 2 ^ (nd.length+1)) (d2:ds.length=nd.length) (b:σ' .bank=σ .bank)
 (n1:σ' .bNodes=some (.list (nd.map aF ++ [aF (op,ks)]))) (n2:σ' .bNumbers=some (.dict (dQ nd ++ [(aF (op,ks),.int (nd.length:Nat))]))) (n3:σ' .bWeights=some (.list (ai (ws ++ [w]))))
 (n4:σ' .bDepths=some (.list (ai (ds ++ [d])))):d6 σ' (nd ++ [(op,ks)]) where
 b:=b.trans B.b
 nodes:=by rw [D4];exact n1
 numbers:=n2.trans (congrArg (some∘PO.dict) (uH nd _))
 weights:=⟨_,n3,by rw [DG,w2,DG];rfl,λi v hi=>(gF hi).elim (w3 i v) λq=>by rw [q.1,q.2,w2];exact hw⟩
 depths:=⟨_,n4,by rw [DG,d2,DG];rfl⟩
 kids:=λi op' ks' hi=>(gF hi).elim (B.kids i op' ks') λq=>by rw [(E0 q.2).1,(E0 q.2).2,q.1];exact ⟨ho,hk2,hk⟩
 nodup:=EV.mpr ⟨B.nodup,Fb _ _,λx hx y hy e=>hm0 (DS.mp hy▸e▸hx)⟩
 small:=by rw [DG];exact hsm
inductive zo(σ1:aa)(n:Nat)(x:PV):List Nat->af->aa->Prop
 | mk {r ρ}:(∀a∈r,a < n)->ρ "self" = some (.ref .bank)->ρ "node" = some x->zo σ1 n x r ρ σ1
theorem lB{l:List Nat}{a:Nat}(h:a < l.length):l[a]? = some (l.getD a 0):=by
 rw [EA,DW h];rfl
theorem wg{c:Cx}(G:Gd c)(P:aD c){σ:aa}{nd:List (Str×List Nat)}(B:d6 σ nd)(hsm:nd.length+1 < 60){op:Str}{ks:List Nat}(ho:fX op=true)(hk2:ks.length<=2)(hk:∀x∈ks,x < nd.length){Q:PV->aa->Prop}
 (hQ1:∀i:Nat,nd[i]? = some (op,ks)->Q (.int (i:Nat)) σ)
 (hQ2:(op,ks)∉nd->∀σ',St bW σ σ'->d6 σ' (nd ++ [(op,ks)])->Q (.int (nd.length:Nat)) σ') (k:Nat) :
 aj c (k+3) .b_take [.ref .bank,.str op,.tup (ai ks)] σ Q:=by
 refine aw G P .b_take rfl ?_;have hnums:σ .bNumbers=some (.dict (dQ nd)):=B.numbers;have hn60:nd.length < 10000:=DH B.small (by decide);have hkl:(ai ks).length+1 < ay:=au (by rw [ah];exact DC (Ei hk2) (by decide));have hkb:ks.length < ay:=au (DC hk2 (by decide));refine ⟨_,rfl,_,rfl,bC.tupT (dr.addT ((JM _ _).symm▸hkl) ⟨_,rfl,_,rfl,_,a9 B.b rfl,Dm (v:=aF (op,ks)) hnums (nA _ _) ?_⟩)⟩;by_cases hm0:(op,ks)∈nd
 · refine (FI.mp hm0).elim λi hi'=>?_;have hg:=wb B.nodup hi';exact iT (congrArg Mo hg) ⟨_,rfl,_,a9 B.b rfl,_,rfl,bz hnums (nA nd (op,ks)) hg (hQ1 i hi')⟩
 have hnot:=wc hm0;refine iB (congrArg Mo (dD hnot)) ⟨_,rfl,_,aL B.b rfl rfl,_,rfl,qz G P ho (λσ1 hr=>?_) k⟩;have B₁:=B.ro hr;refine ⟨_,rfl,fQ hkl (cW (EE hkl) ?_)⟩;refine br (λx:Nat=>.int (x:Int)) (zo σ1 nd.length (aF (op,ks))) (λa r ρ σ' I=>I.casesOn λhx hs hn=>⟨trivial,_,rfl,λP' hP'=>⟨_,af.put_self _ _ _,?_⟩⟩) (λρ σ' I=>I.casesOn λ_ hs hn=>⟨trivial,?_⟩) ks _ _ (.mk hk rfl rfl)
 · exact .le (iT (decide_eq_true (EL _)) ⟨_,hs,_,a9 B₁.b rfl,cL B₁.nodes (DD _) hn60 (.lt (iB (congrArg Ga (decide_eq_true (EG.mpr (hx a (.head _))))) (hP' _ _ (.mk (λy hy=>hx y (.tail _ hy)) hs hn))))⟩)
 refine ⟨_,hs,_,a9 B₁.b rfl,cL B₁.nodes (DD _) hn60 ⟨_,hs,_,a9 B₁.b rfl,_,hn,gu B₁.numbers (nA nd (op,ks)) (by rw [DD,HD];exact au hn60) hnot λσ2 u2=>?_⟩⟩;have b2:=(u2.ne .bank (by decide)).trans B₁.b;have l2:=(u2.ne .bNodes (by decide)).trans B₁.nodes;refine ⟨_,hs,_,a9 b2 rfl,_,fe l2 rfl,_,hn,ke l2 (by rw [DD];exact au hn60) λσ3 u3=>?_⟩;refine aZ B₁.weights λws w1 w2 w3=>aN B₁.depths λds d1 d2=>?_;have h60:∀{a},a < nd.length->a < 2 ^ 60:=λh=>DH (DH h hn60) (by decide);have b3:=(u3.ne .bank (by decide)).trans b2;have w₃:=(u3.ne .bWeights (by decide)).trans ((u2.ne .bWeights (by decide)).trans w1);refine ⟨_,hs,_,a9 b3 rfl,_,fe w₃ rfl,_,hn,fQ hkl (cW (EE hkl) ?_)⟩;refine lA (λa=>ws.getD a 0) (λ_ _=>trivial) hkb (λa ha=>⟨_,rfl,λσ'' hr'' P1 P0 hp1=>⟨_,(af.put_ne _ _ (by decide)).trans hs,_,a9 ((hr''.at rfl).trans b3) rfl,_,af.put_self _ _ _,bH ((hr''.at rfl).trans w₃) (h60 (hk a ha)) (dC (lB (w2▸hk a ha))) (hp1 _ hr'')⟩⟩) λn4 σ4 r4 l4=>?_;have hmem:∀x∈ks.map (λa=>ws.getD a 0),x∈ws:=λx hx=>(DO.mp hx).elim λa q=>q.2▸EC (lB (w2▸hk a q.1));have hsum:=we w3 w2 B.small (l:=ks.map λa=>ws.getD a 0) (by rw [DD];exact hk2) hmem;have w₄:=(r4.at (p:=.bWeights) rfl).trans w₃;refine Dk l4 (by rw [DD];exact hkb) (EE (DI hsum (DM (IJ (by decide) (D9 hsm)) (by decide)))) (.addI (mo (MC 1 _) w₄ (w2▸hn60) λσ5 u5=>?_));have b5:=(u5.ne .bank (by decide)).trans ((r4.at rfl).trans b3);have d5:=(u5.ne .bDepths (by decide)).trans ((r4.at rfl).trans ((u3.ne .bDepths (by decide)).trans ((u2.ne .bDepths (by decide)).trans d1)));refine ⟨_,hs,_,a9 b5 rfl,_,fe d5 rfl,_,hn,fQ hkl (cW (EE hkl) ?_)⟩;refine lA (λa=>ds.getD a 0) (λ_ _=>trivial) hkb (λa ha=>⟨_,rfl,λσ'' hr'' P1 P0 hp1=>⟨_,(af.put_ne _ _ (by decide)).trans hs,_,a9 ((hr''.at rfl).trans b5) rfl,_,af.put_self _ _ _,bH ((hr''.at rfl).trans d5) (h60 (hk a ha)) (dC (lB (d2▸hk a ha))) (hp1 _ hr'')⟩⟩) λn6 σ6 r6 l6=>?_;refine gE λn7 hn7=>?_;have hne:al.loc n6≠.loc n7:=λe=>Eh _ (l6.symm.trans (e▸hn7));refine dr.addL ((aa.set_ne _ _ hne).trans l6) (aa.set_self _ _ _) (by rw [ah,DD];exact au (DC (Ei hk2) (by decide))) (bo λn8 σ8 r8 l8=>?_);have R:Ro σ5 σ8:=r6.trans ((Ro.new hn7).trans r8);refine Dl (l:=(ks.map λa=>ds.getD a 0) ++ [0]) (l8.trans (congrArg (some∘PO.list) (dO _ 0))) (by rw [DG,DD];exact au (DC (Ei hk2) (by decide))) (List.append_ne_nil_of_right_ne_nil _ (Gp _ _)) λm hm=>.addI (mo (MC 1 _) ((R.at rfl).trans d5) (d2▸hn60) λσ9 u9=>?_);have b9:=(u9.ne .bank (by decide)).trans ((R.at rfl).trans b5);have n9:=(u9.ne .bNodes (by decide)).trans ((R.at rfl).trans ((u5.ne .bNodes (by decide)).trans ((r4.at rfl).trans u3.at_)));refine ⟨_,hs,_,a9 b9 rfl,cL (n:=nd.length+1) n9 (by rw [DG,DD];rfl) (DH hsm (by decide)) (.sub ((Jc (nd.length:Int) 1).symm▸hQ2 hm0 _ ?_ ?_))⟩
 · exact (Ro.weak hr).trans ((u2.st rfl trivial).trans ((u3.st rfl trivial).trans ((Ro.weak r4).trans ((u5.st rfl trivial).trans ((Ro.weak R).trans (u9.st rfl trivial))))))
 · exact B₁.take hsm ho hk2 hk hm0 w2 w3 hsum d2 (b9.trans B₁.b.symm) n9 ((u9.ne _ (by decide)).trans ((R.at rfl).trans ((u5.ne _ (by decide)).trans ((r4.at rfl).trans ((u3.ne _ (by decide)).trans u2.at_))))) ((u9.ne _ (by decide)).trans ((R.at rfl).trans u5.at_)) u9.at_
noncomputable def gv:List PV->List (Str×List Nat)->List PV
 | acc,[]=>acc
 | acc,x::r=>gv (acc ++ [.tup (.str x.1::x.2.map λk=>acc.getD k .none)]) r
noncomputable def wh(nd:List (Str×List Nat)):List PV:=gv [] nd
noncomputable def tm(nd:List (Str×List Nat))(n:Nat):PV:=(wh nd).getD n .none
theorem sg(l l':List (Str×List Nat)):∀(acc:List PV),gv acc (l ++ l')=gv (gv acc l) l':=by
 induction l with
 | nil=>exact λ_=>rfl
 | cons x r ih=>exact λacc=>ih _
theorem nB(l:List (Str×List Nat)):∀(acc:List PV),(gv acc l).length=acc.length+l.length:=by
 induction l with
 | nil=>exact λ_=>rfl
 | cons x r ih=>exact λacc=>(ih _).trans (by rw [DG,Hs];exact congrArg (acc.length+·) (JM 1 r.length))
theorem eX(nd:List (Str×List Nat)):(wh nd).length=nd.length:=(nB nd []).trans (FK _)
theorem lC(nd:List (Str×List Nat))(x:Str×List Nat):wh (nd ++ [x])=wh nd ++ [.tup (.str x.1::x.2.map (tm nd))]:=by
 unfold wh;rw [sg];rfl
theorem dE(nd:List (Str×List Nat))(l:List (Str×List Nat)){n:Nat}(h:n < nd.length):tm (nd ++ l) n=tm nd n:=by
 induction l generalizing nd with
 | nil=>rw [Eg]
 | cons x r ih=>
  have e:nd ++ x::r=(nd ++ [x]) ++ r:=(Ey nd [x] r).symm;rw [e,ih (nd ++ [x]) (by rw [DG];exact DI h (Ed _ _)),tm,tm,lC,EA,EA,FY (by rw [eX];exact h)]
theorem eY{nd:List (Str×List Nat)}(hk:∀(i:Nat) (op:Str) (ks:List Nat),nd[i]? = some (op,ks)->∀k∈ks,k < i){n:Nat}{op:Str}{ks:List Nat}(h:nd[n]? = some (op,ks)) :
 tm nd n=.tup (.str op::ks.map (tm nd)):=by
 have hlt:=(DR.mp h).1;have e:nd=(nd.take n ++ [(op,ks)]) ++ nd.drop (n+1):=by
  have h2:nd[n]=(op,ks):=(DR.mp h).2;rw [← h2,Ht,Io]
 have hl:(nd.take n).length=n:=List.length_take_of_le (D9 hlt);have e1:tm nd n=tm (nd.take n ++ [(op,ks)]) n:=by
  conv=>lhs;rw [e]
  exact dE _ _ (by rw [DG,hl];exact D6 n)
 rw [e1,tm,lC,EA,EW (by rw [eX];exact Ee hl)];rw [eX,hl,Ie];refine congrArg (λl=>PV.tup (.str op::l)) (El λk hkm=>?_);have hkn:=hk n op ks h k hkm;have e2:tm (nd.take n ++ ([(op,ks)] ++ nd.drop (n+1))) k=tm (nd.take n) k:=dE _ _ (by exact DI hkn (Ee hl.symm));rw [← Ey,← e] at e2;exact e2.symm
theorem Ro.setLoc{σ σ':aa}{n:Nat}{o:PO}(h:Ro σ σ')(hn:σ (.loc n)=none):Ro σ (σ'.set (.loc n) o):=
 ⟨λp hp hne=>(aa.set_ne _ _ λe:p=.loc n=>hne (e▸hn)).trans (h.loc p hp hne),λp hp hI=>(aa.set_ne _ _ λe:p=.loc n=>EU ((e▸hp:al.isLoc (.loc n)=false):true=false)).trans (h.oth p hp hI)⟩
theorem Ro.upd{σ σ' σ'':aa}{n:Nat}{o:PO}(h:Ro σ σ')(hn:σ (.loc n)=none)(u:bL σ' (.loc n) o σ''):Ro σ σ'':=
 ⟨λp hp hne=>(u.ne p λe=>hne (e▸hn)).trans (h.loc p hp hne),λp hp hI=>(u.ne p λe=>EU ((e▸hp:al.isLoc (.loc n)=false):true=false)).trans (h.oth p hp hI)⟩
theorem Ro.none{σ σ':aa}{n:Nat}(hr:Ro σ σ')(h:σ' (.loc n)=none):σ (.loc n)=none:=FZ λhne=>hne ((hr.loc _ rfl hne).symm.trans h)
theorem Ro.keep{σ σ':aa}{n:Nat}{o:PO}(hr:Ro σ σ')(e:σ (.loc n)=some o):σ' (.loc n)=some o:=(hr.loc _ rfl (e▸Eh _)).trans e
theorem bh{σ:aa}{a b:Nat}{o:PO}(h:σ (.loc a)=some o)(h':σ (.loc b)=none):al.loc a≠.loc b:=λe=>Eh o (h.symm.trans (e▸h'))
theorem gH{C:CP}{k:Nat}{x a:String}{px pp:Pos}{p q:al}{o:PO}{ρ:af}{σ:aa}{Q:af->aa->Prop}{c:Cl}{fs:List (String×PV)}(hp:σ p=none)(hpq:q≠p)(hx:ρ x=some (.ref q))(h:σ q=some (.inst c fs))(h1:fs.length < 20)(h2:a∈c.attrs)
 (K:∀σ',σ' q=some (.inst c (dy fs a (.ref p)))->σ' p=some o->(∀r,r≠p->r≠q->σ' r=σ r)->Q ρ σ'):aQ σ o λv σ'=>j6 C k (.attr (.var x px) a pp) v ρ σ' Q:=
 sO p hp (hG hx ((aa.set_ne _ _ hpq).trans h) h1 h2 (K _ (aa.set_self _ _ _) ((aa.set_ne _ _ hpq.symm).trans (aa.set_self _ _ _)) λr a b=>(aa.set_ne _ _ b).trans (aa.set_ne _ _ a)))
theorem wi{c:Cx}(G:Gd c)(P:aD c){σ:aa}(hu:σ .bank=some (.inst .bank []))(h1:σ .bNodes=none)(h2:σ .bNumbers=none)(h3:σ .bWeights=none)(h4:σ .bDepths=none){Q:PV->aa->Prop}
 (hQ:∀σ',St (λp=>p=.bank\/bW p) σ σ'->d6 σ' []->Q .none σ') (k:Nat):aj c (k+1) .b_init [.ref .bank] σ Q:=by
 refine aw G P .b_init rfl ?_;refine gH h1 (by decide) rfl hu (by decide) (by decide) λσ1 b1 n1 f1=>?_;refine gH ((f1 _ (by decide) (by decide)).trans h2) (by decide) rfl b1 (by decide) (by decide) λσ2 b2 n2 f2=>?_;refine gH ((f2 _ (by decide) (by decide)).trans ((f1 _ (by decide) (by decide)).trans h3)) (by decide) rfl b2 (by decide) (by decide) λσ3 b3 n3 f3=>?_;refine gH ((f3 _ (by decide) (by decide)).trans ((f2 _ (by decide) (by decide)).trans ((f1 _ (by decide) (by decide)).trans h4))) (by decide) rfl b3 (by decide) (by decide) λσ4 b4 n4 f4=>hQ _ ?_ ?_
 · have st:∀p,p≠.bank->¬bW p->σ4 p=σ p:=λp hb h=>(f4 p (λe=>h (e▸trivial)) hb).trans ((f3 p (λe=>h (e▸trivial)) hb).trans ((f2 p (λe=>h (e▸trivial)) hb).trans (f1 p (λe=>h (e▸trivial)) hb)));have l:∀p,p.isLoc=true->p≠.bank/\¬bW p:=λp hp=>⟨λe=>EU ((e▸hp:al.bank.isLoc=true):false=true),λh=>EU (hp.symm.trans (bW.isLoc p h))⟩;exact ⟨λp hp _=>st p (l p hp).1 (l p hp).2,λp _ h=>st p (λe=>h (.inl e)) λe=>h (.inr e)⟩
 · have g2:=f4 .bNumbers (by decide) (by decide);have g1:=(f3 .bNodes (by decide) (by decide)).trans ((f2 .bNodes (by decide) (by decide)).trans n1);exact {
    b:=b4
    nodes:=(f4 _ (by decide) (by decide)).trans g1
    numbers:=g2.trans ((f3 _ (by decide) (by decide)).trans n2)
    weights:=⟨[],(f4 _ (by decide) (by decide)).trans n3,rfl,λ_ _ h=>absurd h nofun⟩
    depths:=⟨[],n4,rfl⟩
    kids:=λ_ _ _ h=>absurd h nofun
    nodup:=Fg
    small:=by decide}
noncomputable def cg(l:List Nat):List (PV×PV):=l.map λ(x:Nat)=>(PV.int (x:Int),PV.bool true)
theorem dm{α:Type}(l:List α)(f:α->Nat)(g:α->PV)(y:Nat):DK (l.map λx=>(.int (f x:Nat),g x)) (.int (y:Nat)):=by
 exact ⟨trivial,Eo _,λkv h=>(DO.mp h).elim λx q=>q.2▸⟨⟨rfl,rfl⟩,Eo _⟩⟩
theorem gI{l:List Nat}{g:Nat->PV}{a:Nat}(hn:l.Nodup)(h:a∈l):aB (l.map λ(x:Nat)=>(PV.int (x:Int),g x)) (.int (a:Nat))=some (g a):=by
 refine cG ?_ (DO.mpr ⟨a,h,rfl⟩);rw [Ea];exact fP (f:=(λx:PV×PV=>x.1)∘λ(x:Nat)=>(PV.int (x:Int),g x)) (λx y e=>Fk (PV.int.inj e)) hn
theorem i8{l:List Nat}{g:Nat->PV}{a:Nat}(h:a∉l):∀kv∈l.map λ(x:Nat)=>(PV.int (x:Int),g x),kv.1≠.int (a:Nat):=by
 exact λkv hm e=>(DO.mp hm).elim λx q=>h (Fk (PV.int.inj (q.2▸e))▸q.1)
theorem fR{l:List Nat}{a:Nat}(h:a∉l):∀kv∈cg l,kv.1≠.int (a:Nat):=by
 exact i8 (g:=λ_=>.bool true) h
theorem jL{l:List Nat}{a:Nat}(hn:l.Nodup)(h:a∈l):aB (cg l) (.int (a:Nat))=some (.bool true):=gI (g:=λ_=>.bool true) hn h
theorem i9(l:List Nat)(a:Nat):cg l ++ [(.int (a:Nat),.bool true)]=cg (l ++ [a]):=by rw [cg,cg,D4];rfl
theorem x7{σ:aa}{p:al}{kb:List Nat}{Q:PV->aa->Prop}(h:σ p=some (.dict (cg kb)))(hl:kb.length < 64)
 (hQ:∀r:List Nat,r.Perm kb->r.Pairwise (·<=·)->aQ σ (.list (ai r)) Q):bC σ Q .sorted [.ref p]:=by
 refine .sortD _ h (by rw [cg,Ea];exact bk kb) ((DD _).symm▸hl) λr hp hs=>?_;refine aZ (fE hp hs) λr' e901 h1 h2=>?_;subst e901;rw [Ea];exact hQ r' h1 h2
theorem CI{σ:aa}{p:al}{l l':List Nat}{x:Nat}{Q:PV->aa->Prop}(e:l=l' ++ [x])(h:σ p=some (.list (ai l)))(hl:l.length < 10000)(hQ:∀σ',bL σ p (.list (ai l')) σ'->Q (.int (x:Nat)) σ'):cb σ Q .lPop (.ref p) []:=
 BD (h.trans (congrArg (some∘PO.list) ((congrArg ai e).trans (dO l' x).symm))) (by rw [ah];rw [e,DG] at hl;exact au hl) (hQ _ (upd _ _ _))
structure fY(nd:List (Str×List Nat))(n:Nat)(kb st:List Nat):Prop where
 nodup:kb.Nodup
 has:n∈kb
 lt:∀x∈kb,x < nd.length
 sub:∀x∈st,x∈kb
 stn:st.Nodup
theorem dh{l:List Nat}{y:Nat}(h:l.Nodup)(hy:y∉l):(l ++ [y]).Nodup:=
 EV.mpr ⟨h,Fb _ _,λ_ ha _ hb e=>hy (DS.mp hb▸e▸ha)⟩
theorem eF{l:List Nat}{x y:Nat}{P:Nat->Prop}(h:x∈l ++ [y])(h1:∀x∈l,P x)(h2:P y):P x:=
 (Eb.mp h).elim (h1 x) λh=>(DS.mp h).symm▸h2
theorem fY.push{nd:List (Str×List Nat)}{n y:Nat}{kb st:List Nat}(S:fY nd n kb st)(hy:y∉kb)(hl:y < nd.length):fY nd n (kb ++ [y]) (st ++ [y]):=
 ⟨dh S.nodup hy,D7 _ S.has,λ_ h=>eF (P:=λx=>x < nd.length) h S.lt hl,λ_ h=>eF (P:=λx=>x∈kb ++ [y]) h (λx hx=>D7 _ (S.sub x hx)) (D0 _ (.head _)),dh S.stn λh=>hy (S.sub y h)⟩
theorem fY.klen{nd:List (Str×List Nat)}{n:Nat}{kb st:List Nat}(S:fY nd n kb st):kb.length<=nd.length:=aM S.nodup S.lt
theorem fY.slen{nd:List (Str×List Nat)}{n:Nat}{kb st:List Nat}(S:fY nd n kb st):st.length<=nd.length:=aM S.stn λx h=>S.lt x (S.sub x h)
theorem fY.pop{nd:List (Str×List Nat)}{n x:Nat}{kb st st':List Nat}(S:fY nd n kb st)(e:st=st' ++ [x]):fY nd n kb st'/\x∉st'/\x∈kb:=
 have a:=EV.mp (e▸S.stn)
 ⟨⟨S.nodup,S.has,S.lt,λy h=>S.sub y (e▸D7 _ h),a.1⟩,λh=>a.2.2 x h x (.head _) rfl,S.sub x (e▸D0 _ (.head _))⟩
structure BR(n n1 n2:Nat)(ρ:af):Prop where
 s:ρ "self" = some (.ref .bank)
 n:ρ "n" = some (.int (n:Nat))
 b:ρ "below" = some (.ref (.loc n1))
 t:ρ "stack" = some (.ref (.loc n2))
theorem BR.put{n n1 n2:Nat}{ρ:af}(R:BR n n1 n2 ρ)(v:PV):BR n n1 n2 (ρ.put "kid" v):=
 ⟨(af.put_ne _ _ (by decide)).trans R.s,(af.put_ne _ _ (by decide)).trans R.n,(af.put_ne _ _ (by decide)).trans R.b,(af.put_ne _ _ (by decide)).trans R.t⟩
noncomputable def Dn(nd:List (Str×List Nat))(l:List Nat):List (PV×PV):=l.map λ(x:Nat)=>(.int (x:Int),tm nd x)
inductive qB(σ:aa)(nd:List (Str×List Nat))(n n1 n2 m:Nat)(ρ:af)(σ':aa):Prop
 | mk (kb st:List Nat):Ro σ σ'->BR n n1 n2 ρ->σ' (.loc n1)=some (.dict (cg kb))->σ' (.loc n2)=some (.list (ai st))->fY nd n kb st->
  (∀x∈kb,x∉st->∀op ks,nd[x]? = some (op,ks)->∀y∈ks,y∈kb)->m=2*(nd.length - kb.length)+st.length->qB σ nd n n1 n2 m ρ σ'
inductive qC(σ:aa)(nd:List (Str×List Nat))(n n3:Nat)(r:List Nat)(n4:Nat)(rem:List Nat)(ρ:af)(σ1:aa):Prop
 | mk (pre:List Nat):Ro σ σ1->ρ "self" = some (.ref .bank)->ρ "n" = some (.int (n:Nat))->ρ "made" = some (.ref (.loc n3))->σ1 (.loc n4)=some (.list (ai r))->r=pre ++ rem->σ1 (.loc n3)=some (.dict (Dn nd pre))->qC σ nd n n3 r n4 rem ρ σ1
inductive qD(σ:aa)(nd:List (Str×List Nat))(n n1 n2 m x:Nat)(ks:List Nat)(rs:List Nat)(ρ:af)(σ1:aa):Prop
 | mk (kb st:List Nat):Ro σ σ1->BR n n1 n2 ρ->σ1 (.loc n1)=some (.dict (cg kb))->σ1 (.loc n2)=some (.list (ai st))->fY nd n kb st->
  (∀y∈kb,y∉st->y≠x->∀op ks,nd[y]? = some (op,ks)->∀z∈ks,z∈kb)->(∀y∈rs,y∈ks)->(∀y∈ks,y∈kb\/y∈rs)->x∈kb->x∉st->2*(nd.length - kb.length)+st.length < m->qD σ nd n n1 n2 m x ks rs ρ σ1
theorem wj{a k s m:Nat}(h:k+1<=a)(g:2*(a - k)+s < m):2*(a - (k+1))+(s+1) < m:=by
 obtain ⟨b,rfl⟩:=Nat.le.dest h;rw [HS];rw [Hs,HS] at g;lia
theorem oB{c:Cx}(G:Gd c)(P:aD c){σ:aa}{nd:List (Str×List Nat)}(B:d6 σ nd){n:Nat}(hn:n < nd.length){Q:PV->aa->Prop}
 (hQ:∀σ',Ro σ σ'->Q (tm nd n) σ') (k:Nat):aj c (k+2) .b_term [.ref .bank,.int (n:Nat)] σ Q:=by
 refine aw G P .b_term rfl ?_;have bI:∀{σ'},Ro σ σ'->σ' .bank=_:=λhr=>(hr.at rfl).trans B.b;have h1000:∀{a},a<=nd.length->a < 10000:=λh=>DH (DC h B.small) (by decide);have hkl:∀{x op ks},nd[x]? = some (op,ks)->(ai ks).length < ay:=λh=>au (DC ((ah _).symm▸(B.kids _ _ _ h).2.1) (by decide));refine ⟨_,rfl,trivial,Eo _,gE λn1 hn1=>⟨_,rfl,gE λn2 hn2=>⟨_,rfl,rfl,?_⟩⟩⟩;have hne:al.loc n1≠.loc n2:=bh (aa.set_self _ _ _) hn2;have hn2':σ (.loc n2)=none:=(aa.set_ne _ _ hne.symm).symm.trans hn2;refine ⟨2*nd.length+2,dN (qB σ nd n n1 n2) (λm ρ σ' I=>I.casesOn λkb st hr R q1 q2 S q7 q8 K hK=>?_) _ (2*(nd.length - 1)+1) _ _ (by lia)
  (.mk [n] [n] ((Ro.new hn1).trans (Ro.new hn2)) ⟨rfl,rfl,rfl,rfl⟩ ((aa.set_ne _ _ hne).trans (aa.set_self _ _ _)) (aa.set_self _ _ _) ⟨Fb _ _,.head _,λx h=>(DS.mp h).symm▸hn,λ_ h=>h,Fb _ _⟩ (λx h h'=>absurd h h') rfl)⟩
 rcases J6 st with e | ⟨st',x,e⟩
 · refine ⟨_,R.t,cL (n:=0) q2 ((ah st).trans (congrArg Gl e)) (by decide) (.gt (iB rfl (gE λn3 hn3=>?_)))⟩;have h31:=bh q1 hn3;have h3s:=hr.none hn3;refine ⟨_,R.b,x7 ((aa.set_ne _ _ h31).trans q1) (DI (DC S.klen B.small) (by decide)) λr hrp hrs=>gE λn4 hn4=>?_⟩;have h43:=bh (aa.set_self _ _ _) hn4;have hrn:r.Nodup:=hrp.nodup_iff.mpr S.nodup;have hrl:r.length<=nd.length:=hrp.length_eq▸S.klen;refine cz (aa.set_self _ _ _) (by rw [ah];exact au (h1000 hrl)) (br (λx:Nat=>.int (x:Int)) (qC σ nd n n3 r n4) (λa rem ρ σ1 I=>I.casesOn λpre hr hs hnn hm h4 er h3=>⟨h4,_,rfl,λP' hP'=>?_⟩)
    (λρ σ1 I=>I.casesOn λpre hr hs hnn hm h4 er h3=>?_) r _ _ (.mk [] (((hr.setLoc h3s).trans (Ro.new hn4))) R.s R.n (af.put_self _ _ _) (aa.set_self _ _ _) rfl ((aa.set_ne _ _ h43).trans (aa.set_self _ _ _))))
   · have hak:=hrp.mem_iff.mp (er▸D0 _ (.head _));have hex:∃op ks,nd[a]? = some (op,ks):=⟨_,_,DW (S.lt a hak)⟩;refine hex.elim λop h=>h.elim λks hx=>?_;have hkx:=B.kids a op ks hx;have hd:=EV.mp (er▸hrn);have hin:∀y∈ks,y∈pre:=λy hy=>(Eb.mp (er▸hrp.mem_iff.mpr (q7 a hak (e▸DX) op ks hx y hy))).resolve_right λh=>absurd (hkx.2.2 y hy) (E2.mpr ((D5.mp h).elim (λe=>Ee e.symm) ((GQ.mp (He.mp (er▸hrs)).2.1).1 y)));have hs':=(af.put_ne ρ (x:="k") (.int (a:Nat)) (show "self"≠"k" by decide)).trans hs;have hm':=(af.put_ne ρ (x:="k") (.int (a:Nat)) (show "made"≠"k" by decide)).trans hm;refine ⟨_,hs',_,aL (bI hr) rfl rfl,_,af.put_self _ _ _,sR G P (B.ro hr) hx ⟨_,hs',_,aL (bI hr) rfl rfl,_,af.put_self _ _ _,jI G P (B.ro hr) hx (cW (hkl hx) ?_) k⟩ k⟩;refine dg (tm nd) (λ_ _=>trivial) (ah ks▸hkl hx) (λy hy=>⟨_,rfl,λσ'' hr'' P1 P0 hp1=>iT rfl ⟨_,hm',_,af.put_self _ _ _,bz (hr''.keep h3) (dm pre (λx=>x) (tm nd) y) (gI hd.1 (hin y hy)) (hp1 _ hr'')⟩⟩) λσ2 hr2=>bo λn5 σ5 r5 l5=>?_;have r25:=hr2.trans r5;refine bC.tupL l5 (by rw [DD,← ah ks];exact hkl hx) (dr.addT (by rw [DD];exact au (DC (EF hkx.2.1 1) (by decide))) ⟨_,hm',_,af.put_self _ _ _,gu (Ro.keep r25 h3) (dm pre (λx=>x) (tm nd) a) ?_ (i8 λh=>hd.2.2 a h a (.head _) rfl) λσ6 u=>?_⟩)
     · exact (DD (as:=pre) _).symm▸au (h1000 (DM (by rw [er,DG];exact Ed _ _) hrl))
     · refine hP' _ _ (.mk (pre ++ [a]) (Ro.upd (hr.trans r25) h3s u) hs' ((af.put_ne _ _ (by decide)).trans hnn) hm' ((u.ne _ h43.symm).trans (Ro.keep r25 h4)) (er.trans (Ey pre [a] rem).symm) (u.at_.trans ?_));show _=some (PO.dict ((pre ++ [a]).map λ(x:Nat)=>(PV.int (x:Int),tm nd x)));rw [D4,HI,eY (λi op ks h=>(B.kids i op ks h).2.2) hx];rfl
   · rw [Eg] at er;exact ⟨h4,_,hm,_,hnn,bz h3 (dm pre (λx=>x) (tm nd) n) (gI (er▸hrn) (er▸hrp.mem_iff.mpr S.has)) (hQ _ hr)⟩
 · rw [J7] at e;have hl:(ai st).length=st'.length+1:=by rw [ah,e,DG];rfl
   have sp:=S.pop e;have hex:∃op ks,nd[x]? = some (op,ks):=⟨_,_,DW (S.lt x sp.2.2)⟩;refine hex.elim λop h=>h.elim λks hx=>?_;have hkx:=(B.kids x op ks hx).2.2;refine ⟨_,R.t,cL q2 hl (hl▸(ah st).symm▸h1000 S.slen) (.gt (iT (decide_eq_true (EG.mpr (FB _))) ⟨_,R.s,_,aL (bI hr) rfl rfl,_,R.t,_,fe q2 rfl,CI e q2 (h1000 S.slen) λσ2 u=>?_⟩))⟩;have hr2:=hr.upd hn2' u;refine jI G P (B.ro hr2) hx (cW (hkl hx) (br (λx:Nat=>.int (x:Int)) (qD σ nd n n1 n2 m x ks) (λy rs ρ σ1 I=>I.casesOn λkb st hr R q1 q2 S q7 q9 q10 q11 q12 q13=>?_)
    (λρ σ1 I=>I.casesOn λkb st hr R q1 q2 S q7 q9 q10 q11 q12 q13=>⟨trivial,hK _ _ _ q13 (.mk kb st hr R q1 q2 S (λy hy hys op' ks' hyn z hz=>?_) rfl)⟩) ks _ _
    (.mk kb st' hr2 R ((u.ne _ hne).trans q1) u.at_ sp.1 (λy hy hys hyx op' ks' hyn z hz=>q7 y hy (λh=>(Eb.mp (e▸h)).elim hys λh=>hyx (DS.mp h)) op' ks' hyn z hz) (λ_ h=>h) (λ_ h=>.inr h) sp.2.2 sp.2.1 ?_))) k
   · rw [q8,e,DG];exact GE (D6 _) _
   · have hyk:=q9 y (.head _);have R':=R.put (.int (y:Nat));refine ⟨trivial,_,rfl,λP' hP'=>⟨_,af.put_self _ _ _,_,R'.b,sS q1 (dm kb (λx=>x) (λ_=>.bool true) y) ?_⟩⟩;by_cases hy:y∈kb
     · exact iB (congrArg (λo=>!Option.isSome o) (jL S.nodup hy)) (hP' _ _ (.mk kb st hr R' q1 q2 S q7 (λz hz=>q9 z (.tail _ hz)) (λz hz=>(q10 z hz).elim .inl λh=>(D5.mp h).elim (λe=>.inl (e▸hy)) .inr) q11 q12 q13))
     · refine iT (congrArg (λo=>!Option.isSome o) (dD (fR hy))) ⟨_,R'.b,_,af.put_self _ _ _,gu q1 (dm kb (λx=>x) (λ_=>.bool true) y) (by rw [cg,DD];exact au (h1000 S.klen)) (fR hy) λσ2 u2=>?_⟩;have q2':=(u2.ne _ hne.symm).trans q2;have S':=S.push hy (DH (hkx y hyk) (S.lt x q11));refine ⟨_,R'.t,_,fe q2' rfl,_,af.put_self _ _ _,mo rfl q2' (h1000 S.slen) λσ3 u3=>hP' _ _ (.mk (kb ++ [y]) (st ++ [y]) ((hr.upd hn1 u2).upd hn2' u3) R' ((u3.ne _ hne).trans (u2.at_.trans (congrArg (some∘PO.dict) (i9 kb y)))) u3.at_ S'
        (λz hz hzs hzx op' ks' hzn w hw=>(Eb.mp hz).elim (λh=>D7 _ (q7 z h (λg=>hzs (D7 _ g)) hzx op' ks' hzn w hw)) λh=>absurd (D0 _ h) hzs) (λz hz=>q9 z (.tail _ hz))
        (λz hz=>(q10 z hz).elim (λh=>.inl (D7 _ h)) λh=>(D5.mp h).elim (λe=>.inl (D0 _ (e▸.head _))) .inr) (D7 _ q11) (λh=>(Eb.mp h).elim q12 λh=>Fi _ (DS.mp h▸hkx y hyk)) ?_)⟩
       have hk:=S'.klen;rw [DG] at hk ⊢;rw [DG];exact wj hk q13
   · by_cases hyx:y=x
     · have e:ks'=ks:=(E0 (DN ((hyx▸hyn).symm.trans hx))).2;exact (q10 z (e▸hz)).resolve_right DX
     · exact q7 y hy hys hyx op' ks' hyn z hz
structure bM(σ:aa)(nd:List (Str×List Nat))(N:Nat)(cls:Nat->Nat):Prop where
 h:σ .heap=some (.inst .heap [("bank",.ref .bank),("unions",.ref .unions),("edges",.ref .hEdges),("forest",.ref .hForest),("known",.ref .hKnown),("above",.ref .hAbove),("waiting",.ref .hWaiting)])
 B:d6 σ nd
 U:cy σ N cls
theorem bM.ro{σ σ':aa}{nd:List (Str×List Nat)}{N:Nat}{cls:Nat->Nat}(H:bM σ nd N cls)(h:Ro σ σ'):bM σ' nd N cls:=⟨(h.at rfl).trans H.h,H.B.ro h,H.U.ro h⟩
theorem bM.abank{σ:aa}{nd:List (Str×List Nat)}{N:Nat}{cls:Nat->Nat}(H:bM σ nd N cls):bS σ (.ref .heap) "bank" = some (.ref .bank):=a9 H.h rfl
theorem bM.aunions{σ:aa}{nd:List (Str×List Nat)}{N:Nat}{cls:Nat->Nat}(H:bM σ nd N cls):bS σ (.ref .heap) "unions" = some (.ref .unions):=a9 H.h rfl
theorem bF{c:Cx}(G:Gd c)(P:aD c){σ:aa}{nd:List (Str×List Nat)}{N:Nat}{cls:Nat->Nat}(H:bM σ nd N cls){a:Nat}(ha:a < N){Q:PV->aa->Prop}(hQ:Q (.int (cls a:Nat)) σ)(k:Nat) :
 aj c (k+2) .h_find [.ref .heap,.int (a:Nat)] σ Q:=by
 refine aw G P .h_find rfl ?_;exact ⟨_,rfl,_,H.aunions,_,aL H.U.u rfl rfl,_,rfl,hM G P H.U ha hQ k⟩
theorem wl{c:Cx}(G:Gd c)(P:aD c){σ:aa}{nd:List (Str×List Nat)}{N:Nat}{cls:Nat->Nat}(H:bM σ nd N cls){Q:PV->aa->Prop}(hQ:Q (.int (nd.length:Nat)) σ)(k:Nat) :
 aj c (k+2) .h_size [.ref .heap] σ Q:=by
 refine aw G P .h_size rfl ?_;exact ⟨_,rfl,_,H.abank,_,aL H.B.b rfl rfl,wa G P H.B hQ k⟩
theorem pq{c:Cx}(G:Gd c)(P:aD c){σ:aa}{nd:List (Str×List Nat)}{N:Nat}{cls:Nat->Nat}(H:bM σ nd N cls){a b:Nat}(ha:a < N)(hb:b < N){Q:PV->aa->Prop}(hQ:Q (.bool (cls a == cls b)) σ)(k:Nat) :
 aj c (k+3) .h_are_like [.ref .heap,.int (a:Nat),.int (b:Nat)] σ Q:=by
 refine aw G P .h_are_like rfl ?_;exact ⟨_,rfl,_,aL H.h rfl rfl,_,rfl,bF G P H ha ⟨_,rfl,_,aL H.h rfl rfl,_,rfl,bF G P H hb (eW hQ) k⟩ k⟩
theorem gJ{c:Cx}(G:Gd c)(P:aD c){σ:aa}{nd:List (Str×List Nat)}{N:Nat}{cls:Nat->Nat}(H:bM σ nd N cls){Q:PV->aa->Prop}
 (hQ:∀σ' m,Ro σ σ'->σ' (.loc m)=some (.list (ai ((DV N).filter λa=>cls a == a)))->Q (.ref (.loc m)) σ') (k:Nat):aj c (k+2) .h_classes [.ref .heap] σ Q:=by
 refine aw G P .h_classes rfl ?_;exact ⟨_,rfl,_,H.aunions,_,aL H.U.u rfl rfl,qx G P H.U hQ k⟩
theorem qE{c:Cx}(G:Gd c)(P:aD c){σ:aa}{nd:List (Str×List Nat)}{N:Nat}{cls:Nat->Nat}(H:bM σ nd N cls){a:Nat}(ha:a < N)(hN:N < 60){Q:PV->aa->Prop}
 (hQ:∀σ' p,Ro σ σ'->σ' p=some (.list (ai (mem N cls (cls a))))->Q (.ref p) σ') (k:Nat):aj c (k+3) .h_members [.ref .heap,.int (a:Nat)] σ Q:=by
 refine aw G P .h_members rfl ?_;exact ⟨_,rfl,_,H.aunions,_,aL H.U.u rfl rfl,_,rfl,qy G P H.U ha hN hQ k⟩
theorem oC{c:Cx}(G:Gd c)(P:aD c){σ:aa}{nd:List (Str×List Nat)}{N:Nat}{cls:Nat->Nat}(H:bM σ nd N cls){n:Nat}{op:Str}{ks:List Nat}(hn:nd[n]? = some (op,ks))(hN:∀x∈ks,x < N){Q:PV->aa->Prop}
 (hQ:∀σ',Ro σ σ'->Q (aF (op,ks.map cls)) σ') (k:Nat):aj c (k+3) .h_node [.ref .heap,.int (n:Nat)] σ Q:=by
 refine aw G P .h_node rfl ?_;have hk:=H.B.kids n op ks hn;have hl:(ai ks).length < 10:=DC ((ah ks).symm▸hk.2.1) (by decide);refine ⟨_,rfl,_,H.abank,_,aL H.B.b rfl rfl,_,rfl,sR G P H.B hn ⟨_,rfl,_,H.abank,_,aL H.B.b rfl rfl,_,rfl,jI G P H.B hn (cW (au (DH hl (by decide))) ?_) (k+1)⟩ (k+1)⟩;refine dg (λa=>.int (cls a:Nat)) (λ_ _=>trivial) (au (DH (ah ks▸hl) (by decide))) (λa ha=>⟨_,rfl,λσ'' hr P1 P0 hp1=>iT rfl ⟨.ref .heap,rfl,_,aL (H.ro hr).h rfl rfl,.int (a:Nat),rfl,bF G P (H.ro hr) (hN a ha) (hp1 _ hr) k⟩⟩)
  λσ1 hr=>bo λm σ2 r2 l2=>bC.tupL l2 (by rw [DD];exact au (DH (ah ks▸hl) (by decide))) (dr.addT (by rw [DD];exact au (DH (GE (ah ks▸hl) 1) (by decide))) ?_)
 have e:PV.tup ([.str op] ++ ks.map λa=>.int (cls a:Nat))=aF (op,ks.map cls):=by rw [aF,ai,Ea];rfl
 rw [e];exact hQ _ (hr.trans r2)
theorem wm{a b:Nat}(h:a≠b):PV.int (a:Nat)≠PV.int (b:Nat):=λe=>h (Fk (PV.int.inj e))
section
variable {α:Type} {f:α->Nat} {a:Nat} {x:α} {r l:List α}
theorem sU(hn:((x::r).map f).Nodup)(e:f x=a):∀y∈r,f y≠a:=λ_ hy h=>(EO.mp hn).1 (DO.mpr ⟨_,hy,h.trans e.symm⟩)
theorem mr(hn:((x::r).map f).Nodup)(e:f x=a):((x::r).filter λx=>f x != a)=r:=by
 rw [HR (by rw [e,bne_self_eq_false];exact DY)];exact Ks.mpr λy hy=>bne_iff_ne.mpr (sU hn e y hy)
theorem kW(e:f x≠a):((x::r).filter λx=>f x != a)=x::r.filter λx=>f x != a:=HQ (bne_iff_ne.mpr e)
theorem qF{g:α->PV}(hn:(l.map f).Nodup):gx (l.map λx=>(.int (f x:Nat),g x)) (.int (a:Nat))=(l.filter λx=>f x != a).map λx=>(.int (f x:Nat),g x):=by
 induction l with
 | nil=>rfl
 | cons x r ih=>
  rw [E1,gx];by_cases e:f x=a
  · rw [mr hn e,e,aJ];exact if_pos rfl
  · rw [kW e,aC (wm e),E1,← ih (EO.mp hn).2];exact if_neg DY
theorem qG{g:α->PV}{y:PV}(hn:(l.map f).Nodup)(h:a∈l.map f):bB (l.map λx=>(.int (f x:Nat),g x)) (.int (a:Nat)) y=l.map λx=>(.int (f x:Nat),if f x=a then y else g x):=by
 induction l with
 | nil=>exact absurd h DX
 | cons x r ih=>
  rw [E1,bB,E1];by_cases e:f x=a
  · rw [if_pos e,e,aJ];exact (if_pos rfl).trans (congrArg _ (El λz hz=>congrArg (M4 _) (if_neg (sU hn e z hz)).symm))
  · rw [if_neg e,aC (wm e),← ih (EO.mp hn).2 ((D5.mp h).resolve_left λq=>e q.symm)];exact if_neg DY
theorem fu{g:Nat->Nat}(hn:(l.map f).Nodup)(h:a∈l.map f):(l.map λx=>g (f x)).sum=((l.filter λx=>f x != a).map λx=>g (f x)).sum+g a:=by
 induction l with
 | nil=>exact absurd h DX
 | cons x r ih=>
  rw [E1,Ju];by_cases e:f x=a
  · rw [mr hn e,e,JM]
  · rw [kW e,E1,Ju,ih (EO.mp hn).2 ((D5.mp h).resolve_left λq=>e q.symm),Hs]
end
inductive dF(σ:aa)(N:Nat)(cls:Nat->Nat)(us:Nat->List Nat)(S:Nat):Prop
 | mk:∀(ab:List (Nat×Nat)) (cnt:Nat),(σ .hAbove=some (.dict (ab.map λx=>(.int (x.1:Nat),.ref (.hUse x.2)))))->(ab.map (·.1)).Nodup->(∀c,c∈ab.map (·.1)↔c < N/\cls c=c)->(ab.map (·.2)).Nodup->(∀x∈ab,x.2 < cnt/\σ (.hUse x.2)=some (.list (ai (us x.1))))->(∀i,cnt<=i->σ (.hUse i)=none)->((ab.map λx=>(us x.1).length).sum<=S)->dF σ N cls us S
structure ce(σ:aa)(nd:List (Str×List Nat))(N:Nat)(cls:Nat->Nat)(kn:List ((Str×List Nat)×Nat))(us:Nat->List Nat)(wt:List Nat)(E S:Nat):Prop where
 R:bM σ nd N cls
 edges:∃l,σ .hEdges=some (.list l)/\l.length+cp N cls<=E
 forest:∃l,σ .hForest=some (.list l)/\l.length+cp N cls<=E
 known:σ .hKnown=some (.dict (kn.map λx=>(aF x.1,.int (x.2:Nat))))
 knN:(kn.map (·.1)).Nodup
 above:dF σ N cls us S
 wait:σ .hWaiting=some (.list (ai wt))
 wtB:kn.length+wt.length+200*cp N cls<=201*E
 E4:E < 4000
 S2:S < 60
noncomputable def gK:al->Prop
 | .hEdges | .hForest | .hKnown | .hAbove | .hWaiting | .hUse _=>True
 | _=>False
noncomputable def bp(p:al):Prop:=cB p\/bW p\/gK p
theorem bW.notH(p:al):bW p->¬gK p:=by
 cases p with
 | bNodes=>exact λ_=>id
 | bNumbers=>exact λ_=>id
 | bWeights=>exact λ_=>id
 | bDepths=>exact λ_=>id
 | _=>exact G9
theorem cB.notH(p:al):cB p->¬gK p:=by
 cases p with
 | uAbove=>exact λ_=>id
 | uLots=>exact λ_=>id
 | uMerged=>exact λ_=>id
 | uLot i=>exact λ_=>id
 | _=>exact G9
theorem bW.notU(p:al):bW p->¬cB p:=by
 cases p with
 | bNodes=>exact λ_=>id
 | bNumbers=>exact λ_=>id
 | bWeights=>exact λ_=>id
 | bDepths=>exact λ_=>id
 | _=>exact G9
theorem bM.of{σ σ':aa}{nd:List (Str×List Nat)}{N:Nat}{cls:Nat->Nat}(R:bM σ nd N cls)(h:∀p,¬gK p->σ' p=σ p):bM σ' nd N cls:=
 ⟨(h _ id).trans R.h,R.B.of_eq λp hp=>h p (hp.elim (λe=>e▸id) (bW.notH p)),R.U.of_eq λp hp=>h p (hp.elim (λe=>e▸id) (cB.notH p))⟩
theorem bM.upd{σ σ':aa}{nd:List (Str×List Nat)}{N:Nat}{cls:Nat->Nat}(R:bM σ nd N cls){p:al}{o:PO}(u:bL σ p o σ')(hp:gK p):bM σ' nd N cls:=R.of λq hq=>u.ne q λe=>hq (e▸hp)
theorem dF.of2{σ σ':aa}{N:Nat}{cls:Nat->Nat}{us:Nat->List Nat}{S:Nat}(h:dF σ N cls us S)(e:σ' .hAbove=σ .hAbove)(e':∀i,σ' (.hUse i)=σ (.hUse i)):dF σ' N cls us S:=
 h.casesOn λab cnt h1 h2 h3 h4 h5 h6 h7=>⟨ab,cnt,e.trans h1,h2,h3,h4,λx hx=>⟨(h5 x hx).1,(e' _).trans (h5 x hx).2⟩,λi hi=>(e' _).trans (h6 i hi),h7⟩
theorem dF.of_eq{σ σ':aa}{N:Nat}{cls:Nat->Nat}{us:Nat->List Nat}{S:Nat}(h:dF σ N cls us S)(e:∀p,(p=.hAbove\/∃i,p=.hUse i)->σ' p=σ p):dF σ' N cls us S:=
 h.of2 (e _ (.inl rfl)) λi=>e _ (.inr ⟨i,rfl⟩)
theorem ce.ro{σ σ':aa}{nd:List (Str×List Nat)}{N:Nat}{cls:Nat->Nat}{kn:List ((Str×List Nat)×Nat)}{us:Nat->List Nat}{wt:List Nat}{E S:Nat}(H:ce σ nd N cls kn us wt E S)(h:Ro σ σ'):ce σ' nd N cls kn us wt E S where
 R:=H.R.ro h
 edges:=by rw [h.at rfl];exact H.edges
 forest:=by rw [h.at rfl];exact H.forest
 known:=by rw [h.at rfl];exact H.known
 knN:=H.knN
 above:=H.above.of_eq λp hp=>h.at (hp.elim (λe=>e▸rfl) λe=>e.elim λi e=>e▸rfl)
 wait:=by rw [h.at rfl];exact H.wait
 wtB:=H.wtB
 E4:=H.E4
 S2:=H.S2
theorem eO{v:PV}{σ:aa}{K:Bool->Prop}(h:K (aG v .none)):bc σ K .Is v .none:=.is h
noncomputable def bT(us:Nat->List Nat)(kept gone:Nat):Nat->List Nat:=λc=>if c=kept then us kept ++ us gone else us c
theorem bM.edges{σ:aa}{nd:List (Str×List Nat)}{N:Nat}{cls:Nat->Nat}(H:bM σ nd N cls):bS σ (.ref .heap) "edges" = some (.ref .hEdges):=a9 H.h rfl
theorem bM.forest{σ:aa}{nd:List (Str×List Nat)}{N:Nat}{cls:Nat->Nat}(H:bM σ nd N cls):bS σ (.ref .heap) "forest" = some (.ref .hForest):=a9 H.h rfl
theorem bM.known{σ:aa}{nd:List (Str×List Nat)}{N:Nat}{cls:Nat->Nat}(H:bM σ nd N cls):bS σ (.ref .heap) "known" = some (.ref .hKnown):=a9 H.h rfl
theorem bM.above{σ:aa}{nd:List (Str×List Nat)}{N:Nat}{cls:Nat->Nat}(H:bM σ nd N cls):bS σ (.ref .heap) "above" = some (.ref .hAbove):=a9 H.h rfl
theorem bM.waiting{σ:aa}{nd:List (Str×List Nat)}{N:Nat}{cls:Nat->Nat}(H:bM σ nd N cls):bS σ (.ref .heap) "waiting" = some (.ref .hWaiting):=a9 H.h rfl
noncomputable abbrev mw(ab:List (Nat×Nat)):List (PV×PV):=ab.map λx=>(PV.int (x.1:Nat),PV.ref (.hUse x.2))
theorem gL{ab:List (Nat×Nat)}(hn:(ab.map (·.1)).Nodup){a i:Nat}(h:(a,i)∈ab):aB (mw ab) (.int (a:Nat))=some (.ref (.hUse i)):=by
 refine cG ?_ (DO.mpr ⟨_,h,rfl⟩);rw [Ea];have:((λx:PV×PV=>x.1)∘λx:Nat×Nat=>(PV.int (x.1:Nat),PV.ref (.hUse x.2)))=(λn:Nat=>PV.int (n:Nat))∘Jd:=rfl;rw [this,← Ea];exact fP (λx y e=>Fk (PV.int.inj e)) hn
theorem mx{ab:List (Nat×Nat)}{a:Nat}(h:a∈ab.map (·.1)):∃i,(a,i)∈ab:=by
 exact (DO.mp h).elim λx q=>q.2▸⟨x.2,q.1⟩
theorem ja(ab:List (Nat×Nat))(a:Nat):DK (mw ab) (.int (a:Nat)):=dm ab (·.1) (λx=>.ref (.hUse x.2)) a
theorem BF{ab:List (Nat×Nat)}(hn:(ab.map (·.1)).Nodup){a i j:Nat}(h:(a,i)∈ab)(h':(a,j)∈ab):i=j:=by
 exact al.hUse.inj (PV.ref.inj (DN ((gL hn h).symm.trans (gL hn h'))))
theorem jM{ab:List (Nat×Nat)}{us:Nat->List Nat}{S a:Nat}(hn:(ab.map (·.1)).Nodup)(h:a∈ab.map (·.1))(hS:(ab.map λx=>(us x.1).length).sum<=S):(us a).length<=S:=by
 rw [fu (f:=λx:Nat×Nat=>x.1) (g:=λc=>(us c).length) hn h] at hS;exact DM (GV _ _) hS
noncomputable def kX(ab:List (Nat×Nat))(kept gone cnt:Nat):List (Nat×Nat):=(ab.filter λx=>x.1 != gone).map λx=>(x.1,if x.1=kept then cnt else x.2)
theorem qH(ab:List (Nat×Nat))(kept gone cnt:Nat):(kX ab kept gone cnt).map (·.1)=(ab.map (·.1)).filter λc=>c != gone:=by
 unfold kX;rw [Ea,GU];rfl
theorem CJ{ab:List (Nat×Nat)}{kept gone cnt:Nat}(hn:(ab.map (·.1)).Nodup)(hk:kept∈ab.map (·.1))(hne:kept≠gone) :
 bB (mw (ab.filter λx=>x.1 != gone)) (.int (kept:Nat)) (.ref (.hUse cnt))=mw (kX ab kept gone cnt):=by
 have e:(ab.filter λx=>x.1 != gone).map (·.1)=(ab.map (·.1)).filter λc=>c != gone:=by rw [GU];rfl
 have h1:((ab.filter λx=>x.1 != gone).map (·.1)).Nodup:=by rw [e];exact hn.filter _
 have h2:kept∈(ab.filter λx=>x.1 != gone).map (·.1):=by
  rw [e,EM];exact ⟨hk,bne_iff_ne.mpr hne⟩
 refine (qG (f:=λx:Nat×Nat=>x.1) h1 h2).trans ?_;unfold mw kX;rw [Ea];refine El λx _=>?_;show (PV.int (x.1:Nat),_)=(PV.int (x.1:Nat),_);exact congrArg (M4 _) (apply_ite (λi=>PV.ref (.hUse i)) _ _ _).symm
theorem uI{ab:List (Nat×Nat)}{kept gone cnt:Nat}(hn:(ab.map (·.1)).Nodup)(hp:(ab.map (·.2)).Nodup)(hc:∀x∈ab,x.2 < cnt):((kX ab kept gone cnt).map (·.2)).Nodup:=by
 unfold kX;rw [Ea,Gr,E5];rw [Gr,E5] at hn hp;refine List.Pairwise.imp_of_mem ?_ ((hn.and hp).filter _);intro x y hx hy h;have h1:=hc x (EM.mp hx).1;have h2:=hc y (EM.mp hy).1;show (if x.1=kept then cnt else x.2)≠(if y.1=kept then cnt else y.2);by_cases e:x.1=kept
 · rw [if_pos e,if_neg λe'=>h.1 (e.trans e'.symm)];exact EY h2
 · rw [if_neg e];by_cases e':y.1=kept
   · rw [if_pos e'];exact D1 h1
   · rw [if_neg e'];exact h.2
theorem Ag{ab:List (Nat×Nat)}{us:Nat->List Nat}{kept gone cnt:Nat}(hn:(ab.map (·.1)).Nodup)(hk:kept∈ab.map (·.1))(hg:gone∈ab.map (·.1))(hne:kept≠gone) :
 ((kX ab kept gone cnt).map λx=>(bT us kept gone x.1).length).sum=(ab.map λx=>(us x.1).length).sum:=by
 have e:(ab.filter λx=>x.1 != gone).map (·.1)=(ab.map (·.1)).filter λc=>c != gone:=by rw [GU];rfl
 have h1:((ab.filter λx=>x.1 != gone).map (·.1)).Nodup:=by rw [e];exact hn.filter _
 have h2:kept∈(ab.filter λx=>x.1 != gone).map (·.1):=by
  rw [e,EM];exact ⟨hk,bne_iff_ne.mpr hne⟩
 have s1:=fu (f:=λx:Nat×Nat=>x.1) (g:=λc=>(us c).length) hn hg;have s2:=fu (f:=λx:Nat×Nat=>x.1) (g:=λc=>(us c).length) h1 h2;have s3:=fu (f:=λx:Nat×Nat=>x.1) (g:=λc=>(bT us kept gone c).length) h1 h2;have s4:(((ab.filter λx=>x.1 != gone).filter λx=>x.1 != kept).map λx=>(bT us kept gone x.1).length)=(((ab.filter λx=>x.1 != gone).filter λx=>x.1 != kept).map λx=>(us x.1).length):=by
  exact El λx hx=>congrArg Gl (if_neg (bne_iff_ne.mp (EM.mp hx).2))
 have s5:(bT us kept gone kept).length=(us kept).length+(us gone).length:=by rw [bT,if_pos rfl,DG]
 have s6:((kX ab kept gone cnt).map λx=>(bT us kept gone x.1).length)=((ab.filter λx=>x.1 != gone).map λx=>(bT us kept gone x.1).length):=by
  unfold kX;rw [Ea];rfl
 rw [s6,s3,s4,s5,s1,s2,Hs]
theorem CK{σ:aa}{p q:al}{l l':List Nat}{Q:PV->aa->Prop}(h:σ p=some (.list (ai l)))(h':σ q=some (.list (ai l')))(hl:l.length+l'.length < ay)(hQ:∀σ',bL σ p (.list (ai (l ++ l'))) σ'->Q .none σ'):cb σ Q .lExtend (.ref p) [.ref q]:=
 zl h h' hl (hQ _ (upd _ _ _))
theorem CM{σ:aa}{p:al}{d:List (PV×PV)}{i:Int}{y:PV}{Q:PV->aa->Prop}(h:σ p=some (.dict d))(hd:DK d (.int i))(hl:d.length < ay)(hy:aB d (.int i)=some y)(hQ:∀σ',bL σ p (.dict (gx d (.int i))) σ'->Q y σ'):cb σ Q .dPop (.ref p) [.int i]:=
 .dpop h hd hl hy (hQ _ (upd _ _ _))
theorem CN{v x:PV}{p:al}{d:List (PV×PV)}{σ:aa}{Q:aa->Prop}(hp:σ p=some (.dict d))(hd:DK d v)(hl:d.length < ay)(h:∀σ',bL σ p (.dict (bB d v x)) σ'->Q σ'):eh σ Q x (.ref p) v:=.di hp hd hl (h _ (upd _ _ _))
theorem x8{σ:aa}{o:PO}{Q:PV->aa->Prop}(p:al)(hp:σ p=none)(h:∀σ',bL σ p o σ'->Q (.ref p) σ'):aQ σ o Q:=sO p hp (h _ (upd _ _ _))
theorem x9{N kept gone:Nat}{cls:Nat->Nat}(hlt:kept < gone)(hck:cls kept=kept)(hle:∀a,cls a<=a)(c:Nat):(c < N/\cls c=c)/\(c != gone)=true↔c < N/\aO cls kept gone c=c:=by
 rw [bne_iff_ne];by_cases e:cls c=gone
 · rw [be e];exact ⟨λh=>absurd (h.1.2.symm.trans e) h.2,λh=>absurd (DM (Ee e.symm) (hle c)) (HE.mpr (h.2▸hlt))⟩
 · rw [aR e];exact ⟨λh=>h.1,λh=>⟨h,λq=>e (h.2.trans q)⟩⟩
theorem BG{w E l:Nat}(h:w<=201*E)(hE:E < 4000)(hl:l < 60):w+l < ay:=by unfold ay;lia
theorem ya{a b l S n m E:Nat}(h:a+b+200*n<=E)(hl:l<=S)(hS:S < 60)(hn:m+1=n):a+(b+l)+200*m<=E:=by lia
theorem oE{c:Cx}(G:Gd c)(P:aD c){σ:aa}{nd:List (Str×List Nat)}{N:Nat}{cls:Nat->Nat}{kn:List ((Str×List Nat)×Nat)}{us:Nat->List Nat}{wt:List Nat}{E S:Nat}(H:ce σ nd N cls kn us wt E S)
 {a b:Nat} {reason:PV} (ha:a < N) (hb:b < N) (hE:E+1 < 4000) {Q:PV->aa->Prop}
 (hQ0:cls a=cls b->∀σ',St bp σ σ'->ce σ' nd N cls kn us wt (E+1) S->Q (.bool false) σ')
 (hQ:∀kept gone,kept < gone->(kept=cls a/\gone=cls b\/kept=cls b/\gone=cls a)->∀σ',St bp σ σ'->ce σ' nd N (aO cls kept gone) kn (bT us kept gone) (wt ++ us gone) E S->Q (.bool true) σ') (k:Nat) :
 aj c (k+3) .h_join [.ref .heap,.int (a:Nat),.int (b:Nat),reason] σ Q:=by
 refine aw G P .h_join rfl ?_;refine aN H.edges λel e1 e2=>aN H.forest λfl f1 f2=>H.above.casesOn λab cnt b1 b2 b3 b4 b5 b6 b7=>?_;have hE4:∀{n},n<=E->n+1 < 10000:=λh=>DC (Ei h) (DH hE (by decide));have eE:=DM (Ed _ _) e2;refine ⟨_,rfl,_,a9 H.R.h rfl,_,fe e1 rfl,_,rfl,_,rfl,_,rfl,ke e1 (au (EE (hE4 eE))) λσ1 u1=>?_⟩;have R1:=H.R.upd u1 trivial;have T1:St bp σ σ1:=u1.st rfl (.inr (.inr trivial));refine ⟨_,rfl,_,a9 R1.h rfl,_,aL R1.U.u rfl rfl,_,rfl,_,rfl,uE G P R1.U ha hb (λhc σ2 hr=>⟨_,rfl,eO (iT (aJ _) (hQ0 hc _ (T1.trans (Ro.weak hr)) ?z))⟩) (λkept gone hlt hcase σ2 ht hU=>?_) k⟩;case z=>
  exact {
   R:=R1.ro hr
   edges:=⟨_,(hr.at rfl).trans u1.at_,by rw [DG,Je];exact Ei e2⟩
   forest:=⟨fl,(hr.at rfl).trans ((u1.ne _ (by decide)).trans f1),FG f2⟩
   known:=(hr.at rfl).trans ((u1.ne _ (by decide)).trans H.known)
   knN:=H.knN
   above:=H.above.of2 ((hr.at rfl).trans (u1.ne _ (by decide))) λi=>(hr.at rfl).trans (u1.ne _ (by nofun))
   wait:=(hr.at rfl).trans ((u1.ne _ (by decide)).trans H.wait)
   wtB:=DM H.wtB (IU _ (E6 E))
   E4:=hE
   S2:=H.S2}
 have hck:cls kept=kept:=hcase.elim (λh=>h.1▸H.R.U.idem _) λh=>h.1▸H.R.U.idem _;have hcg:cls gone=gone:=hcase.elim (λh=>h.2▸H.R.U.idem _) λh=>h.2▸H.R.U.idem _;have hgN:gone < N:=hcase.elim (λh=>h.2▸H.R.U.lt hb) λh=>h.2▸H.R.U.lt ha;have R2:bM σ2 nd N (aO cls kept gone):=⟨(ht.oth _ rfl id).trans R1.h,R1.B.of_eq λp hp=>ht.oth p (hp.elim (λe=>e▸rfl) (bW.isLoc p)) (hp.elim (λe=>e▸id) (bW.notU p)),hU⟩;have he2:=(ht.oth .hEdges rfl id).trans u1.at_;have hf2:=(ht.oth .hForest rfl id).trans ((u1.ne _ (by decide)).trans f1);refine ⟨_,rfl,eO (iB (aC nofun) ⟨_,rfl,_,rfl,rfl,_,rfl,_,a9 R2.h rfl,_,fe hf2 rfl,_,rfl,_,a9 R2.h rfl,cL (n:=el.length+1) he2 DG (hE4 eE) (.sub (ke hf2 (au (EE (hE4 (DM (Ed _ _) f2)))) λσ3 u3=>?_))⟩)⟩;have kk:∀p,p.isLoc=false->¬cB p->p≠.hForest->p≠.hEdges->σ3 p=σ p:=λp h1 h2 h3 h4=>(u3.ne p h3).trans ((ht.oth p h1 h2).trans (u1.ne p h4));have hmk:=(b3 kept).mpr ⟨DH hlt hgN,hck⟩;have hmg:=(b3 gone).mpr ⟨hgN,hcg⟩;refine (mx hmk).elim λik hik=>(mx hmg).elim λig hig=>?_;have hab3:=(kk .hAbove rfl id (by decide) (by decide)).trans b1;have hw3:=(kk .hWaiting rfl id (by decide) (by decide)).trans H.wait;have hu3:∀i,σ3 (.hUse i)=σ (.hUse i):=λi=>kk _ rfl id (by nofun) (by nofun);have hlg:(us gone).length<=S:=jM b2 hmg b7;have h60:∀{n},n<=S->n < 5000:=λh=>DH (DC h H.S2) (by decide);have hwt:wt.length<=201*E:=DM (DM (GV _ _) (Ed _ _)) H.wtB;have habl:ab.length < ay:=au (DH (DC (DD (as:=ab) _▸aM b2 λc hc=>((b3 c).mp hc).1) H.R.U.small) (by decide));have h3:=(u3.ne .heap (by decide)).trans R2.h;refine ⟨_,rfl,_,a9 h3 rfl,_,fe hw3 rfl,_,rfl,_,a9 h3 rfl,_,rfl,bz hab3 (ja _ _) (gL b2 hig) (CK hw3 ((hu3 ig).trans (b5 _ hig).2) (BG hwt H.E4 (DC hlg H.S2)) λσ4 u4=>?_)⟩;have hab4:=(u4.ne .hAbove (by decide)).trans hab3;have h4:=(u4.ne .heap (by decide)).trans h3;refine ⟨_,rfl,_,a9 h4 rfl,_,rfl,bz hab4 (ja _ _) (gL b2 hik) ⟨_,rfl,_,a9 h4 rfl,_,iR hab4 rfl,_,rfl,CM hab4 (ja _ _) ((DD _).symm▸habl) (gL b2 hig) λσ5 u5=>?_⟩⟩;have u45:∀i,σ5 (.hUse i)=σ (.hUse i):=λi=>(u5.ne _ (by nofun)).trans ((u4.ne _ (by nofun)).trans (hu3 i));refine dr.addL ((u45 ik).trans (b5 _ hik).2) ((u45 ig).trans (b5 _ hig).2) (by rw [ah,ah];exact au (Kg (h60 (jM b2 hmk b7)) (h60 hlg))) (x8 (.hUse cnt) ((u45 cnt).trans (b6 _ (DQ _))) λσ6 u6=>?_);have hab6:=(u6.ne .hAbove (by nofun)).trans (u5.at_.trans (congrArg (some∘PO.dict) (qF b2)));have h6:=(u6.ne .heap (by nofun)).trans ((u5.ne .heap (by decide)).trans h4);refine ⟨_,rfl,_,a9 h6 rfl,_,rfl,CN hab6 (ja _ _) (by rw [DD];exact DC (Fm _ _) habl) λσ7 u7=>hQ kept gone hlt hcase _ ?_ ?_⟩
 · exact T1.trans ((ht.weak λp h=>.inl h).trans ((u3.st rfl (.inr (.inr trivial))).trans ((u4.st rfl (.inr (.inr trivial))).trans ((u5.st rfl (.inr (.inr trivial))).trans ((u6.st rfl (.inr (.inr trivial))).trans (u7.st rfl (.inr (.inr trivial))))))))
 have k7:∀p,p≠.hWaiting->p≠.hAbove->p≠.hUse cnt->σ7 p=σ3 p:=λp a b c=>(u7.ne p b).trans ((u6.ne p c).trans ((u5.ne p b).trans (u4.ne p a)));have hne:=D1 hlt;refine {
  R:=((((R2.upd u3 trivial).upd u4 trivial).upd u5 trivial).upd u6 trivial).upd u7 trivial
  edges:=⟨_,(k7 _ (by decide) (by decide) (by nofun)).trans ((u3.ne _ (by decide)).trans he2),by rw [DG];exact iA (fO hck hcg hlt hgN H.R.U.le) e2⟩
  forest:=⟨_,(k7 _ (by decide) (by decide) (by nofun)).trans u3.at_,by rw [DG];exact iA (fO hck hcg hlt hgN H.R.U.le) f2⟩
  known:=(k7 _ (by decide) (by decide) (by nofun)).trans ((kk _ rfl id (by decide) (by decide)).trans H.known)
  knN:=H.knN
  above:=.mk (kX ab kept gone cnt) (cnt+1) (u7.at_.trans (congrArg (some∘PO.dict) (CJ b2 hmk hne))) (by rw [qH];exact b2.filter _) (λc=>by rw [qH,EM,b3];exact x9 hlt hck H.R.U.le c) (uI b2 b4 λx hx=>(b5 x hx).1)
   (λx hx=>(DO.mp hx).elim λy q=>q.2▸?_)
   (λi hi=>(k7 _ (by nofun) (by nofun) λh=>EY hi (al.hUse.inj h)).trans ((hu3 i).trans (b6 i (D9 hi)))) (by rw [Ag b2 hmk hmg hne];exact b7)
  wait:=(u7.ne _ (by decide)).trans ((u6.ne _ (by nofun)).trans ((u5.ne _ (by decide)).trans u4.at_))
  wtB:=by rw [DG];exact ya H.wtB hlg H.S2 (fO hck hcg hlt hgN H.R.U.le)
  E4:=H.E4
  S2:=H.S2}
 have hy1:=b5 y (EM.mp q.1).1;by_cases e:y.1=kept
 · show (if y.1=kept then cnt else y.2) < cnt+1/\σ7 (.hUse (if y.1=kept then cnt else y.2))=some (.list (ai (if y.1=kept then us kept ++ us gone else us y.1)));rw [if_pos e,if_pos e];exact ⟨D6 _,(u7.ne _ (by nofun)).trans (u6.at_.trans (congrArg (some∘PO.list) D4.symm))⟩
 · show (if y.1=kept then cnt else y.2) < cnt+1/\σ7 (.hUse (if y.1=kept then cnt else y.2))=some (.list (ai (if y.1=kept then us kept ++ us gone else us y.1)));rw [if_neg e,if_neg e];exact ⟨En hy1.1,(k7 _ (by nofun) (by nofun) λh=>D1 hy1.1 (al.hUse.inj h)).trans ((hu3 _).trans hy1.2)⟩
noncomputable abbrev wo(kn:List ((Str×List Nat)×Nat)):List (PV×PV):=kn.map λx=>(aF x.1,PV.int (x.2:Nat))
theorem Ah{kn:List ((Str×List Nat)×Nat)}(hn:(kn.map (·.1)).Nodup){x:Str×List Nat}{m:Nat}(h:(x,m)∈kn):aB (wo kn) (aF x)=some (.int (m:Nat)):=by
 refine cG ?_ (DO.mpr ⟨_,h,rfl⟩);rw [Ea];have:((λx:PV×PV=>x.1)∘λx:(Str×List Nat)×Nat=>(aF x.1,PV.int (x.2:Nat)))=aF∘Jd:=rfl;rw [this,← Ea];exact fP (λ_ _=>dP) hn
theorem yb{kn:List ((Str×List Nat)×Nat)}{x:Str×List Nat}(h:x∉kn.map (·.1)):aB (wo kn) (aF x)=none:=by
 exact dD λkv hm e=>(DO.mp hm).elim λy q=>h (dP (q.2▸e)▸DO.mpr ⟨y,q.1,rfl⟩)
theorem zp(kn:List ((Str×List Nat)×Nat))(x:Str×List Nat):DK (wo kn) (aF x):=qA kn (·.1) _ x
theorem wq{kn:List ((Str×List Nat)×Nat)}{a b E:Nat}(h:kn.length+1+a+b<=201*E)(hE:E < 4000):(wo kn).length < ay:=by
 rw [DD];unfold ay;lia
theorem BH{σ:aa}{p:al}{d:List (PV×PV)}{x y:PV}{Q:PV->aa->Prop}(h:σ p=some (.dict d))(hd:DK d x)(hl:d.length < ay)(hn:aB d x=none)(hQ:∀σ',bL σ p (.dict (d ++ [(x,y)])) σ'->Q y σ'):cb σ Q .dSetdef (.ref p) [x,y]:=
 .setd h hd hl (λ_ hz=>absurd (hz.symm.trans hn) (Eh _)) λ_=>hQ _ (upd _ _ _)
theorem jN{c:Cx}(G:Gd c)(P:aD c){σ:aa}{nd:List (Str×List Nat)}{N:Nat}{cls:Nat->Nat}{kn:List ((Str×List Nat)×Nat)}{us:Nat->List Nat}{wt:List Nat}{E S:Nat}(H:ce σ nd N cls kn us wt E S)
 {n:Nat} {op:Str} {ks:List Nat} (hn:nd[n]? = some (op,ks)) (hnN:n < N) (hks:∀x∈ks,x < N) (hkn:∀x∈kn,x.2 < N) (hE:E+1 < 4000) (hsl:kn.length+1+wt.length+200*cp N cls<=201*E) {Q:PV->aa->Prop}
 (hA:∀m,((op,ks.map cls),m)∈kn->cls m=cls n->∀σ',St bp σ σ'->ce σ' nd N cls kn us wt E S->Q .none σ')
 (hB:(op,ks.map cls)∉kn.map (·.1)->∀σ',St bp σ σ'->ce σ' nd N cls (kn ++ [((op,ks.map cls),n)]) us wt E S->Q .none σ')
 (hJ:∀m kept gone,((op,ks.map cls),m)∈kn->kept < gone->(kept=cls m/\gone=cls n\/kept=cls n/\gone=cls m)->∀σ',St bp σ σ'->ce σ' nd N (aO cls kept gone) kn (bT us kept gone) (wt ++ us gone) E S->Q .none σ') (k:Nat) :
 aj c (k+4) .h_look_at [.ref .heap,.int (n:Nat)] σ Q:=by
 refine aw G P .h_look_at rfl ?_;refine ⟨_,rfl,_,a9 H.R.h rfl,_,iR H.known rfl,_,rfl,_,aL H.R.h rfl rfl,_,rfl,oC G P H.R hn hks (λσ1 hr=>⟨_,rfl,?_⟩) k⟩;have H1:=H.ro hr;have hkd:σ1 .hKnown=some (.dict (wo kn)):=H1.known;by_cases hm:(op,ks.map cls)∈kn.map (·.1)
 · refine (DO.mp hm).elim λx q=>?_;have hx:((op,ks.map cls),x.2)∈kn:=q.2▸q.1;have hg:=Ah H.knN hx;have hmN:=hkn _ hx;refine cb.setd hkd (zp _ _) (wq hsl H.E4) (λz hz=>DN (hg.symm.trans hz)▸?_) λhz=>absurd (hg.symm.trans hz) (Eh _);refine ⟨_,rfl,_,aL H1.R.h rfl rfl,_,rfl,bF G P H1.R hmN ⟨_,rfl,_,aL H1.R.h rfl rfl,_,rfl,bF G P H1.R hnN (fN ?_) (k+1)⟩ (k+1)⟩;by_cases e:cls x.2=cls n
   · exact iB (bne_eq_false_iff_eq.mpr e) (hA _ hx e _ (Ro.weak hr) H1)
   · exact iT (bne_iff_ne.mpr e) ⟨_,rfl,_,aL H1.R.h rfl rfl,_,rfl,_,rfl,oE G P H1 hmN hnN hE (λh=>absurd h e) (λkept gone hlt hc σ2 ht hH=>hJ _ kept gone hx hlt hc _ ((Ro.weak hr).trans ht) hH) k⟩
 · refine BH hkd (zp _ _) (wq hsl H.E4) (yb hm) λσ2 u2=>?_;have R2:=H1.R.upd u2 trivial;refine ⟨_,rfl,_,aL R2.h rfl rfl,_,rfl,bF G P R2 hnN ⟨_,rfl,_,aL R2.h rfl rfl,_,rfl,bF G P R2 hnN (fN (iB (bne_self_eq_false _) ?_)) (k+1)⟩ (k+1)⟩;exact hB hm _ ((Ro.weak hr).trans (u2.st rfl (.inr (.inr trivial)))) {
    R:=R2
    edges:=H1.edges.elim λl q=>⟨l,(u2.ne _ (by decide)).trans q.1,q.2⟩
    forest:=H1.forest.elim λl q=>⟨l,(u2.ne _ (by decide)).trans q.1,q.2⟩
    known:=u2.at_.trans (by rw [D4];rfl)
    knN:=by rw [D4];exact EV.mpr ⟨H.knN,Fb _ _,λx hx y hy e=>hm ((DS.mp hy:y=(op,ks.map cls))▸e▸hx)⟩
    above:=H1.above.of2 (u2.ne _ (by decide)) λi=>u2.ne _ (by nofun)
    wait:=(u2.ne _ (by decide)).trans H1.wait
    wtB:=by rw [DG];exact hsl
    E4:=H.E4
    S2:=H.S2}
noncomputable abbrev BI:=(Nat->Nat)->List ((Str×List Nat)×Nat)->(Nat->List Nat)->List Nat->Prop
structure zq(nd:List (Str×List Nat))(J:BI):Prop where
 wtN:∀cls kn us wt n,J cls kn us (wt ++ [n])->n < nd.length
 knN:∀cls kn us wt,J cls kn us wt->∀x∈kn,x.2 < nd.length
 same:∀cls kn us wt n op ks m,J cls kn us (wt ++ [n])->nd[n]? = some (op,ks)->((op,ks.map cls),m)∈kn->cls m=cls n->J cls kn us wt
 new:∀cls kn us wt n op ks,J cls kn us (wt ++ [n])->nd[n]? = some (op,ks)->(op,ks.map cls)∉kn.map (·.1)->J cls (kn ++ [((op,ks.map cls),n)]) us wt
 join:∀cls kn us wt n op ks m kept gone,J cls kn us (wt ++ [n])->nd[n]? = some (op,ks)->((op,ks.map cls),m)∈kn->kept < gone->(kept=cls m/\gone=cls n\/kept=cls n/\gone=cls m)->
  J (aO cls kept gone) kn (bT us kept gone) (wt ++ us gone)
inductive my(σ:aa)(nd:List (Str×List Nat))(E:Nat)(S:Nat)(J:BI)(m:Nat)(ρ:af)(σ':aa):Prop
 | mk:St bp σ σ'->ρ "self" = some (.ref .heap)->∀cls kn us wt,ce σ' nd nd.length cls kn us wt E S->J cls kn us wt->m=201*cp nd.length cls+wt.length->my σ nd E S J m ρ σ'
theorem CO{σ:aa}{p:al}{l l':List Nat}{x:Nat}{Q:PV->aa->Prop}(e:l=l' ++ [x])(h:σ p=some (.list (ai l)))(hl:l.length < ay)(hQ:∀σ',bL σ p (.list (ai l')) σ'->Q (.int (x:Nat)) σ'):cb σ Q .lPop (.ref p) []:=
 BD (h.trans (congrArg (some∘PO.list) ((congrArg ai e).trans (dO l' x).symm))) (by rw [ah];rw [e,DG] at hl;exact hl) (hQ _ (upd _ _ _))
theorem sV{a b c E:Nat}(h:a+b+c<=201*E)(hE:E < 4000):b < ay:=by unfold ay;lia
theorem wu{a b l w S:Nat}(h:a+1=b)(hl:l<=S)(hS:S < 60):201*a+(w+l) < 201*b+(w+1):=by lia
theorem sh{c:Cx}(G:Gd c)(P:aD c){σ:aa}{nd:List (Str×List Nat)}{cls:Nat->Nat}{kn:List ((Str×List Nat)×Nat)}{us:Nat->List Nat}{wt:List Nat}{E S:Nat}(H:ce σ nd nd.length cls kn us wt E S)
 {J:BI} (K:zq nd J) (hJ:J cls kn us wt) (hE:E+1 < 4000) {Q:PV->aa->Prop}
 (hQ:∀σ' cls' kn' us',St bp σ σ'->ce σ' nd nd.length cls' kn' us' [] E S->J cls' kn' us' []->Q .none σ') (k:Nat) :
 aj c (k+5) .h_settle [.ref .heap] σ Q:=by
 refine aw G P .h_settle rfl ?_;refine ⟨201*cp nd.length cls+wt.length+1,dN (my σ nd E S J) (λm ρ σ1 I=>I.casesOn λht hs cls kn us wt H hJ hm K' hK=>?_) _ _ _ σ (D6 _) ⟨St.refl,rfl,cls,kn,us,wt,H,hJ,rfl⟩⟩;have hwb:(ai wt).length < ay:=by rw [ah];exact sV H.wtB H.E4
 rcases J6 wt with e | ⟨wt',n,e⟩
 · exact ⟨_,hs,_,H.R.waiting,.lenL H.wait hwb (.gt (iB (by rw [ah,e];rfl) (hQ _ _ _ _ ht (e▸H) (e▸hJ))))⟩
 rw [J7] at e;have hl:wt.length=wt'.length+1:=e▸DG;have hJ':=e▸hJ;have hn:=K.wtN _ _ _ _ _ hJ';have hex:∃op ks,nd[n]? = some (op,ks):=⟨_,_,DW hn⟩;refine hex.elim λop h=>h.elim λks hx=>?_;refine ⟨_,hs,_,H.R.waiting,.lenL H.wait hwb (.gt (iT (decide_eq_true (EG.mpr (by rw [ah,hl];exact FB _))) ⟨_,hs,_,aL H.R.h rfl rfl,_,hs,_,H.R.waiting,_,fe H.wait rfl,CO e H.wait (ah wt▸hwb) λσ2 u2=>?_⟩))⟩;have H2:ce σ2 nd nd.length cls kn us wt' E S:={
  R:=H.R.upd u2 trivial
  edges:=H.edges.elim λl q=>⟨l,(u2.ne _ (by decide)).trans q.1,q.2⟩
  forest:=H.forest.elim λl q=>⟨l,(u2.ne _ (by decide)).trans q.1,q.2⟩
  known:=(u2.ne _ (by decide)).trans H.known
  knN:=H.knN
  above:=H.above.of2 (u2.ne _ (by decide)) λi=>u2.ne _ (by nofun)
  wait:=u2.at_
  wtB:=DM (Hf (EF (hl▸E6 _) _) _) H.wtB
  E4:=H.E4
  S2:=H.S2}
 have t2:St bp σ σ2:=ht.trans (u2.st rfl (.inr (.inr trivial)));have hkx:=H.R.B.kids n op ks hx;have hm':m=201*cp nd.length cls+(wt'.length+1):=hl▸hm;refine jN G P H2 hx hn (λx hx=>DH (hkx.2.2 x hx) hn) (K.knN _ _ _ _ hJ) hE (by have:=H.wtB;rw [hl] at this;rw [Je kn.length 1];exact this) (λm' hmk hc σ3 t3 H3=>hK _ _ _ (hm'▸D6 _) ⟨t2.trans t3,hs,_,_,_,_,H3,K.same _ _ _ _ _ _ _ _ hJ' hx hmk hc,rfl⟩)
  (λhmk σ3 t3 H3=>hK _ _ _ (hm'▸D6 _) ⟨t2.trans t3,hs,_,_,_,_,H3,K.new _ _ _ _ _ _ _ hJ' hx hmk,rfl⟩)
  (λmk kept gone hmk hlt hc σ3 t3 H3=>hK _ _ _ ?_ ⟨t2.trans t3,hs,_,_,_,_,H3,K.join _ _ _ _ _ _ _ _ _ _ hJ' hx hmk hlt hc,rfl⟩) k
 have hmN:=K.knN _ _ _ _ hJ _ hmk;have U:=H.R.U;have hck:cls kept=kept:=hc.elim (λh=>h.1▸U.idem _) λh=>h.1▸U.idem _;have hcg:cls gone=gone:=hc.elim (λh=>h.2▸U.idem _) λh=>h.2▸U.idem _;have hgN:gone < nd.length:=hc.elim (λh=>h.2▸U.lt hn) λh=>h.2▸U.lt hmN;rw [hm',DG];exact wu (fO hck hcg hlt hgN U.le) (H.above.casesOn λab cnt b1 b2 b3 b4 b5 b6 b7=>jM b2 ((b3 gone).mpr ⟨hgN,hcg⟩) b7) H.S2
theorem uJ{c:Cx}(G:Gd c)(P:aD c){σ:aa}{nd:List (Str×List Nat)}{N:Nat}{cls:Nat->Nat}{kn:List ((Str×List Nat)×Nat)}{us:Nat->List Nat}{wt:List Nat}{E S:Nat}(H:ce σ nd N cls kn us wt E S)
 {a b:Nat} {reason:PV} (ha:a < N) (hb:b < N) (hE:E+1 < 4000) {Q:PV->aa->Prop}
 (hQ0:cls a=cls b->∀σ',St bp σ σ'->ce σ' nd N cls kn us wt (E+1) S->Q (.bool false) σ')
 (hQ:∀kept gone,kept < gone->(kept=cls a/\gone=cls b\/kept=cls b/\gone=cls a)->∀σ',St bp σ σ'->ce σ' nd N (aO cls kept gone) kn (bT us kept gone) (wt ++ us gone) E S->Q (.bool true) σ') (k:Nat) :
 aj c (k+4) .h_merge [.ref .heap,.int (a:Nat),.int (b:Nat),reason] σ Q:=by
 refine aw G P .h_merge rfl ?_;exact ⟨_,rfl,_,aL H.R.h rfl rfl,_,rfl,_,rfl,_,rfl,oE G P H ha hb hE hQ0 hQ k⟩
theorem mz{c:Cx}(G:Gd c)(P:aD c){σ:aa}{nd:List (Str×List Nat)}{N:Nat}{cls:Nat->Nat}{kn:List ((Str×List Nat)×Nat)}{us:Nat->List Nat}{wt:List Nat}{E S:Nat}(H:ce σ nd N cls kn us wt E S)
 {Q:PV->aa->Prop} (hQ:Q (.bool (wt.length == 0)) σ) (k:Nat):aj c (k+1) .h_is_settled [.ref .heap] σ Q:=by
 refine aw G P .h_is_settled rfl ?_;exact ⟨_,rfl,_,H.R.waiting,.lenL H.wait (by rw [ah];exact sV H.wtB H.E4) (eW (by rw [ah];exact hQ))⟩
theorem fF{α β:Type}{f:α->β}(hf:∀x y,f x=f y->x=y){l:List α}{x:α}:f x∈l.map f↔x∈l:=
 ⟨λh=>(DO.mp h).elim λy q=>hf _ _ q.2▸q.1,λh=>DO.mpr ⟨x,h,rfl⟩⟩
theorem qI{α β:Type}{f:α->β}{r:List β}:(∀x∈r,∃y,f y=x)->∃l:List α,l.map f=r:=by
 induction r with
 | nil=>exact λ_=>⟨[],rfl⟩
 | cons x r ih=>exact λh=>(h x (.head _)).elim λy q=>(ih λz hz=>h z (.tail _ hz)).elim λl e=>⟨y::l,by rw [E1,q,e]⟩
theorem uK{c:Cx}(G:Gd c)(P:aD c){σ:aa}{nd:List (Str×List Nat)}{N:Nat}{cls:Nat->Nat}{kn:List ((Str×List Nat)×Nat)}{us:Nat->List Nat}{wt:List Nat}{E S:Nat}(H:ce σ nd N cls kn us wt E S)
 {a:Nat} (ha:a < N) {Q:PV->aa->Prop} (hQ:∀σ' m (l:List Nat),σ (.loc m)=none->Ro σ σ'->σ' (.loc m)=some (.list (ai l))->(∀x,x∈l↔x∈us (cls a))->l.length<=S->Q (.ref (.loc m)) σ') (k:Nat):aj c (k+3) .h_users [.ref .heap,.int (a:Nat)] σ Q:=by
 refine aw G P .h_users rfl ?_;refine H.above.casesOn λab cnt b1 b2 b3 b4 b5 b6 b7=>?_;have hmc:=(b3 (cls a)).mpr ⟨H.R.U.lt ha,H.R.U.idem a⟩;have hl:=jM b2 hmc b7;refine (mx hmc).elim λi hi=>?_;refine ⟨_,rfl,_,H.R.above,_,rfl,_,aL H.R.h rfl rfl,_,rfl,bF G P H.R ha (bz b1 (ja _ _) (gL b2 hi) (.mk (b5 _ hi).2 (by rw [ah];exact DC hl H.S2) (.inl (by rw [bk];rfl)) λr hr hrl=>gE λn hn=>?_)) k⟩;have sub:∀x∈r,∃y:Nat,PV.int (y:Int)=x:=λx hx=>(DO.mp ((hr x).mp hx)).imp λ_ q=>q.2;refine (qI sub).elim λl e=>?_;have mi:∀{l:List Nat} {x:Nat},PV.int (x:Int)∈ai l↔x∈l:=fF λ_ _ e=>Fk (PV.int.inj e);exact hQ _ _ l hn (Ro.new hn) (by rw [ai,e];exact aa.set_self _ _ _) (λx=>(mi.symm.trans (by rw [ai,e];exact hr (.int (x:Nat)))).trans mi) (by rw [← e,DD,ah] at hrl;exact DM hrl hl)
noncomputable def kf(nd:List (Str×List Nat))(cls:Nat->Nat)(n:Nat):Str×List Nat:=match nd[n]? with
 | some (op,ks)=>(op,ks.map cls)
 | none=>(⟨#[]⟩,[])
theorem si(x:Str×List Nat):bD (aF x)=true:=by
 show (a6 (ai x.2)).isSome=true;rw [bk];rfl
theorem pu{c:Cx}(G:Gd c)(P:aD c){σ:aa}{nd:List (Str×List Nat)}{cls:Nat->Nat}(H:bM σ nd nd.length cls)
 {a:Nat} (ha:a < nd.length) {Q:PV->aa->Prop} (hQ:∀σ' p (l:List (Str×List Nat)),Ro σ σ'->σ' p=some (.list (l.map aF))->(∀x,x∈l↔∃n,n < nd.length/\cls n=cls a/\x=kf nd cls n)->l.length<=nd.length->Q (.ref p) σ') (k:Nat) :
 aj c (k+4) .h_nodes_of [.ref .heap,.int (a:Nat)] σ Q:=by
 refine aw G P .h_nodes_of rfl ?_;have hml:(mem nd.length cls (cls a)).length<=nd.length:=DM (Fm _ _) (Ee Ez);have hm60:=DC hml H.B.small;have hmb:(mem nd.length cls (cls a)).length < ay:=au (DH hm60 (by decide));refine ⟨_,rfl,_,aL H.h rfl rfl,_,rfl,qE G P H ha H.B.small (λσ1 p hr hp=>cz hp (by rw [ah];exact hmb) ?_) k⟩;refine dg (λn=>aF (kf nd cls n)) (λσ2 hr2=>?_) hmb (λn hn=>⟨_,rfl,λσ2 hr2 P1 P0 hp1=>iT rfl ?_⟩) λσ2 hr2=>bo λm σ3 r3 l3=>.mk l3 (by rw [DD];exact hm60) (.inr λx hx=>(DO.mp hx).elim λn q=>q.2▸si _) λr hr4 hrl=>bo λm2 σ4 r4 l4=>?_
 · by_cases e:p.isLoc=true
   · exact (hr2.loc p e (hp▸Eh _)).trans hp
   · exact (hr2.oth p (FQ.mpr e) id).trans hp
 · have hn':=(mem_iff.mp hn).1;have hx:nd[n]? = some (nd[n].1,nd[n].2):=DW hn';have H2:=(H.ro hr).ro hr2;refine ⟨.ref .heap,rfl,_,aL H2.h rfl rfl,.int (n:Nat),rfl,oC G P H2 hx (λx hm=>DH ((H.B.kids n _ _ hx).2.2 x hm) hn') (λσ3 hr3=>?_) k⟩;have e:kf nd cls n=(nd[n].1,nd[n].2.map cls):=by rw [kf,hx]
   exact e▸hp1 σ3 (hr2.trans hr3)
 · have sub:∀x∈r,∃y,aF y=x:=λx hx=>(DO.mp ((hr4 x).mp hx)).elim λn q=>⟨_,q.2⟩;refine (qI sub).elim λl e=>hQ _ _ l ((hr.trans hr2).trans (r3.trans r4)) (e▸l4) (λx=>?_) (by rw [← e,DD,DD] at hrl;exact DM hrl hml);have mi:∀{l:List (Str×List Nat)} {x},aF x∈l.map aF↔x∈l:=fF λ_ _=>dP;refine ((mi.symm.trans (by rw [e];exact hr4 (aF x))).trans DO).trans ⟨λh=>h.imp λn q=>⟨(mem_iff.mp q.1).1,(mem_iff.mp q.1).2,(dP q.2).symm⟩,λh=>h.imp λn q=>⟨mem_iff.mpr ⟨q.1,q.2.1⟩,congrArg aF q.2.2.symm⟩⟩
theorem jk{α β:Type}{f:α->β}{l:List α}(hn:(l.map f).Nodup){x y:α}(hx:x∈l)(hy:y∈l)(e:f x=f y):x=y:=by
 induction l with
 | nil=>exact absurd hx DX
 | cons z r ih=>
  have h:=EO.mp hn;have no:∀{w},w∈r->f z≠f w:=λhw e=>h.1 (e▸DO.mpr ⟨_,hw,rfl⟩);exact (D5.mp hx).elim (λex=>(D5.mp hy).elim (λey=>ex.trans ey.symm) λky=>absurd (ex▸e) (no ky)) λkx=>(D5.mp hy).elim (λey=>absurd (ey▸e).symm (no kx)) λky=>ih h.2 kx ky
theorem dF.push{σ σ':aa}{N:Nat}{cls:Nat->Nat}{us:Nat->List Nat}{S:Nat}(h:dF σ N cls us S){a n:Nat}(ha:a < N)(hc:cls a=a){i:Nat}
 (hi:∀ab:List (Nat×Nat),(ab.map (·.1)).Nodup->σ .hAbove=some (.dict (mw ab))->(a,i)∈ab) (e1:σ' .hAbove=σ .hAbove) (e2:σ' (.hUse i)=some (.list (ai (us a ++ [n])))) (e3:∀j,j≠i->σ' (.hUse j)=σ (.hUse j)) :
 dF σ' N cls (λc=>if c=a then us a ++ [n] else us c) (S+1):=by
 refine h.casesOn λab cnt b1 b2 b3 b4 b5 b6 b7=>?_;have hia:=hi ab b2 b1;refine ⟨ab,cnt,e1.trans b1,b2,b3,b4,λx hx=>⟨(b5 x hx).1,?_⟩,λj hj=>(e3 _ λe=>HE.mpr (b5 _ hia).1 (e▸hj)).trans (b6 j hj),?_⟩
 · show _=some (PO.list (ai (if x.1=a then us a ++ [n] else us x.1)));by_cases e:x.1=a
   · rw [if_pos e,BF b2 (show (x.1,x.2)∈ab from hx) (e▸hia)];exact e2
   · rw [if_neg e,e3 _ λh=>e (congrArg Jd (jk b4 hx hia h))];exact (b5 x hx).2
 · have hm:a∈ab.map (·.1):=DO.mpr ⟨_,hia,rfl⟩;rw [fu (f:=λx:Nat×Nat=>x.1) (g:=λc=>(us c).length) b2 hm] at b7;rw [fu (f:=λx:Nat×Nat=>x.1) (g:=λc=>(if c=a then us a ++ [n] else us c).length) b2 hm,
    El λx hx=>congrArg Gl (if_neg (bne_iff_ne.mp (EM.mp hx).2)),if_pos rfl,DG]
   exact Ei b7
noncomputable def kg(us us':Nat->List Nat)(n:Nat)(cs:List Nat):Prop:=∀c x,x∈us' c↔(c≠n/\x∈us c)\/(x=n/\c∈cs)
theorem dF.weakS{σ:aa}{N:Nat}{cls:Nat->Nat}{us:Nat->List Nat}{S S':Nat}(h:dF σ N cls us S)(hS:S<=S'):dF σ N cls us S':=
 h.casesOn λab cnt b1 b2 b3 b4 b5 b6 b7=>⟨ab,cnt,b1,b2,b3,b4,b5,b6,DM b7 hS⟩
theorem ce.weakS{σ:aa}{nd:List (Str×List Nat)}{N:Nat}{cls:Nat->Nat}{kn:List ((Str×List Nat)×Nat)}{us:Nat->List Nat}{wt:List Nat}{E S S':Nat}(H:ce σ nd N cls kn us wt E S)(hS:S<=S')(h6:S' < 60):ce σ nd N cls kn us wt E S':=
 {H with above:=H.above.weakS hS,S2:=h6}
theorem yc{r:List PV}{l:List Nat}(h:∀x∈r,x∈ai l):∃r',r=ai r':=
 (qI λx hx=>(DO.mp (h x hx)).imp λ_ q=>q.2).imp λ_ e=>e.symm
theorem oF{l:List Nat}{a:Nat}:PV.int (a:Nat)∈ai l↔a∈l:=fF λ_ _ e=>Fk (PV.int.inj e)
theorem BJ{σ:aa}{p:al}{l:List Nat}{Q:PV->aa->Prop}(h:σ p=some (.list (ai l)))(hl:l.length < 60)(hQ:∀r:List Nat,(∀x,x∈r↔x∈l)->r.length<=l.length->aQ σ (.list (ai r)) Q):pW σ Q (.ref p):=
 .mk h ((ah l).symm▸hl) (.inl (by rw [bk];rfl)) λr hr hrl=>(yc λx hx=>(hr x).mp hx).elim λr' e=>by
  rw [e] at hr hrl ⊢;rw [ah,ah] at hrl;exact hQ r' (λx=>oF.symm.trans ((hr _).trans oF)) hrl
theorem Ai{l l':List (Nat×Nat)}(h:mw l=mw l'):l=l':=
 IZ (λ_ _ e=>MV (Fk (PV.int.inj (E0 e).1)) (al.hUse.inj (PV.ref.inj (E0 e).2))) |>.mp h
theorem dF.new{σ σ':aa}{N:Nat}{cls:Nat->Nat}{us:Nat->List Nat}{S cnt:Nat}{ab:List (Nat×Nat)}(hN:cls N=N)(b2:(ab.map (·.1)).Nodup)(b3:∀c,c∈ab.map (·.1)↔c < N/\cls c=c)(b4:(ab.map (·.2)).Nodup)
 (b5:∀x∈ab,x.2 < cnt/\σ (.hUse x.2)=some (.list (ai (us x.1)))) (b6:∀i,cnt<=i->σ (.hUse i)=none) (b7:(ab.map λx=>(us x.1).length).sum<=S)
 (e1:σ' .hAbove=some (.dict (mw ab ++ [(.int (N:Nat),.ref (.hUse cnt))]))) (e2:σ' (.hUse cnt)=some (.list [])) (e3:∀i,i≠cnt->σ' (.hUse i)=σ (.hUse i)):dF σ' (N+1) cls (λc=>if c=N then [] else us c) S:=by
 have hne:∀x∈ab,x.1≠N:=λx hx e=>Fi _ ((b3 _).mp (e▸DO.mpr ⟨x,hx,rfl⟩)).1;refine .mk (ab ++ [(N,cnt)]) (cnt+1) (e1.trans (by rw [D4];rfl)) ?_ (λc=>?_) ?_ (λx hx=>?_) (λi hi=>(e3 i (EY hi)).trans (b6 i (D9 hi))) ?_
 · rw [D4];exact dh b2 λh=>(DO.mp h).elim λx q=>hne x q.1 q.2
 · rw [D4,Eb,b3];exact ⟨λh=>h.elim (λh=>⟨En h.1,h.2⟩) λh=>(DS.mp h).symm▸⟨D6 N,hN⟩,λh=>(Fh.mp h.1).elim (λg=>.inl ⟨g,h.2⟩) λg=>.inr (DS.mpr g)⟩
 · rw [D4];exact dh b4 λh=>(DO.mp h).elim λz q=>D1 (b5 z q.1).1 q.2
 · rcases Eb.mp hx with h | h
   · have q:=b5 x h;refine ⟨En q.1,?_⟩;show _=some (PO.list (ai (if x.1=N then [] else us x.1)));rw [if_neg (hne x h)];exact (e3 _ (D1 q.1)).trans q.2
   · rw [DS.mp h];refine ⟨D6 _,?_⟩;show _=some (PO.list (ai (if N=N then [] else us N)));rw [if_pos rfl];exact e2
 · rw [D4,IM,El λx hx=>congrArg Gl (if_neg (hne x hx))];show _+((if N=N then [] else us N).length+0)<=S;rw [if_pos rfl];exact b7
theorem sW{a b n E:Nat}(h:a+b+200*n<=201*E):a+1+b+200*(n+1)<=201*(E+1):=by lia
inductive sX(σ:aa)(nd:List (Str×List Nat))(cls:Nat->Nat)(kn:List ((Str×List Nat)×Nat))(us:Nat->List Nat)(wt:List Nat)(E S:Nat)(op:Str)(ks:List Nat)(m6:Nat)(r':List Nat)(rem:List Nat)(ρ:af)(σ':aa):Prop
 | mk (pre us1):ρ "self" = some (.ref .heap)->ρ "n" = some (.int (nd.length:Nat))->St bp σ σ'->σ' (.loc m6)=some (.list (ai r'))->r'=pre ++ rem->ce σ' (nd ++ [(op,ks)]) (nd.length+1) cls kn us1 wt (E+1) (S+pre.length)->kg us us1 nd.length pre->sX σ nd cls kn us wt E S op ks m6 r' rem ρ σ'
theorem lE{c:Cx}(G:Gd c)(P:aD c){σ:aa}{nd:List (Str×List Nat)}{cls:Nat->Nat}{kn:List ((Str×List Nat)×Nat)}{us:Nat->List Nat}{wt:List Nat}{E S:Nat}(H:ce σ nd nd.length cls kn us wt E S)
 {op:Str} {ks:List Nat} (ho:fX op=true) (hk2:ks.length<=2) (hk:∀x∈ks,x < nd.length) (hsm:nd.length+1 < 60) (hE:E+2 < 4000) (hS:S+ks.length < 60) (hkn:∀x∈kn,x.2 < nd.length) {Q:PV->aa->Prop}
 (hOld:∀i:Nat,nd[i]? = some (op,ks)->Q (.int (i:Nat)) σ)
 (hB:(op,ks)∉nd->(op,ks.map cls)∉kn.map (·.1)->∀us',kg us us' nd.length (ks.map cls)->∀σ',St bp σ σ'->ce σ' (nd ++ [(op,ks)]) (nd.length+1) cls (kn ++ [((op,ks.map cls),nd.length)]) us' wt (E+1) (S+ks.length)->Q (.int (nd.length:Nat)) σ')
 (hJ:(op,ks)∉nd->∀m,((op,ks.map cls),m)∈kn->∀us',kg us us' nd.length (ks.map cls)->∀σ',St bp σ σ'->ce σ' (nd ++ [(op,ks)]) (nd.length+1) (aO cls (cls m) nd.length) kn (bT us' (cls m) nd.length) (wt ++ us' nd.length) (E+1) (S+ks.length)->Q (.int (nd.length:Nat)) σ') (k:Nat) :
 aj c (k+5) .h_add [.ref .heap,.str op,.tup (ai ks)] σ Q:=by
 refine aw G P .h_add rfl ?_;refine ⟨_,rfl,_,a9 H.R.h rfl,_,aL H.R.B.b rfl rfl,_,rfl,_,rfl,wg G P H.R.B hsm ho hk2 hk
  (λi hi=>⟨_,rfl,_,rfl,_,a9 H.R.h rfl,_,aL H.R.U.u rfl rfl,oz G P H.R.U (sT (iT (decide_eq_true (EG.mpr (DR.mp hi).1)) ⟨_,rfl,hOld i hi⟩)) (k+3)⟩) (λhnew σ1 t1 B1=>?_) (k+1)⟩
 have U1:cy σ1 nd.length cls:=H.R.U.of_eq λp hp=>t1.oth p (hp.elim (λe=>e▸rfl) (cB.isLoc p)) (hp.elim (λe=>e▸id) λu b=>bW.notU p b u);have h1:=(t1.oth .heap rfl id).trans H.R.h;refine ⟨_,rfl,_,rfl,_,a9 h1 rfl,_,aL U1.u rfl rfl,oz G P U1 (sT (iB (decide_eq_false (Mp _)) ⟨_,rfl,_,a9 h1 rfl,_,aL U1.u rfl rfl,v8 G P U1 (DH hsm (by decide)) (λσ2 t2 U2=>?_) (k+3)⟩)) (k+3)⟩;have h2:=(t2.oth .heap rfl id).trans h1;have B2:d6 σ2 (nd ++ [(op,ks)]):=B1.of_eq λp hp=>t2.oth p (hp.elim (λe=>e▸rfl) (bW.isLoc p)) (hp.elim (λe=>e▸id) (bW.notU p));refine H.above.casesOn λab cnt b1 b2 b3 b4 b5 b6 b7=>?_;have k2:∀p,p.isLoc=false->¬cB p->¬bW p->σ2 p=σ p:=λp a b c=>(t2.oth p a b).trans (t1.oth p a c);have hcN:cls nd.length=nd.length:=H.R.U.out _ (DQ _);refine x8 (.hUse cnt) ((k2 _ rfl id id).trans (b6 _ (DQ _))) λσ3 u3=>?_;refine ⟨_,rfl,_,a9 ((u3.ne _ (by nofun)).trans h2) rfl,_,rfl,gu ((u3.ne _ (by nofun)).trans ((k2 _ rfl id id).trans b1)) (ja _ _) ?_ (λkv hm e=>(DO.mp hm).elim λx q=>Fi nd.length ((b3 _).mp (DO.mpr ⟨x,q.1,Fk (PV.int.inj ((congrArg Jd q.2).trans e))⟩)).1) λσ4 u4=>?_⟩
 · rw [DD];exact au (DC (DD (as:=ab) _▸aM b2 λc hc=>((b3 c).mp hc).1) (DH (EE hsm) (by decide)))
 have k4:∀p,p.isLoc=false->¬cB p->¬bW p->p≠.hUse cnt->p≠.hAbove->σ4 p=σ p:=λp a b c d e=>(u4.ne p e).trans ((u3.ne p d).trans (k2 p a b c));have H4:ce σ4 (nd ++ [(op,ks)]) (nd.length+1) cls kn (λc=>if c=nd.length then [] else us c) wt (E+1) S:={
  R:=((bM.mk h2 B2 U2).upd u3 trivial).upd u4 trivial
  edges:=H.edges.elim λl q=>⟨l,(k4 _ rfl id id (by nofun) (by decide)).trans q.1,by rw [fL hcN];exact Ei q.2⟩
  forest:=H.forest.elim λl q=>⟨l,(k4 _ rfl id id (by nofun) (by decide)).trans q.1,by rw [fL hcN];exact Ei q.2⟩
  known:=(k4 _ rfl id id (by nofun) (by decide)).trans H.known
  knN:=H.knN
  above:=dF.new hcN b2 b3 b4 b5 b6 b7 u4.at_ ((u4.ne _ (by nofun)).trans u3.at_) λi hi=>k4 _ rfl id id (λe=>hi (al.hUse.inj e)) (by nofun)
  wait:=(k4 _ rfl id id (by nofun) (by decide)).trans H.wait
  wtB:=by rw [fL hcN];exact DM (Hf (Hf (E6 _) _) _) (sW H.wtB)
  E4:=EE hE
  S2:=H.S2}
 have t4:St bp σ σ4:=(t1.weak λp h=>.inr (.inl h)).trans ((t2.weak λp h=>.inl h).trans ((u3.st rfl (.inr (.inr trivial))).trans (u4.st rfl (.inr (.inr trivial)))));have hkb:ks.length < ay:=au (DC hk2 (by decide));refine ⟨_,rfl,cW ((ah ks).symm▸hkb) ?_⟩;refine lA cls (λ_ _=>trivial) hkb (λa ha=>⟨_,rfl,λσ5 hr5 P1 P0 hp1=>⟨_,rfl,_,aL (H4.R.ro hr5).h rfl rfl,_,rfl,bF G P (H4.R.ro hr5) (En (hk a ha)) (hp1 _ hr5) (k+2)⟩⟩)
  λm5 σ5 r5 l5=>BJ l5 (by rw [DD];exact DC hk2 (by decide)) λr' hmem hrl=>bo λm6 σ6 r6 l6=>?_
 rw [DD] at hrl;refine cz l6 ((ah r').symm▸DC hrl hkb) ?_;refine br (λx:Nat=>.int (x:Int)) (sX σ nd cls kn us wt E S op ks m6 r') (λa rem ρ σ' I=>I.casesOn λpre us1 hs hn ht hq er H1 hu=>⟨hq,_,rfl,λP' hP'=>?_⟩) (λρ σ' I=>I.casesOn λpre us1 hs hn ht hq er H1 hu=>⟨hq,?_⟩) r' _ _
  (.mk [] _ rfl rfl (t4.trans (Ro.weak (r5.trans r6))) l6 rfl (H4.ro (r5.trans r6)) λc x=>?_)
 · show x∈(if c=nd.length then [] else us c)↔_;by_cases e:c=nd.length
   · rw [if_pos e];exact ⟨λh=>absurd h DX,λh=>h.elim (λh=>absurd e h.1) λh=>absurd h.2 DX⟩
   · rw [if_neg e];exact ⟨λh=>.inl ⟨e,h⟩,λh=>h.elim (·.2) λh=>absurd h.2 DX⟩
 · refine (DO.mp ((hmem a).mp (er▸D0 _ (.head _)))).elim λa0 q=>?_;have haN:a < nd.length+1:=En (DC (q.2▸H.R.U.le a0) (hk a0 q.1));have hac:cls a=a:=by rw [← q.2];exact H.R.U.idem a0
   have hlen:S+(pre ++ [a]).length < 60:=by
    rw [er,DG] at hrl;rw [DG];exact DC (EF (DM (EF (Ei (Eo _)) _) hrl) _) hS
   refine H1.above.casesOn λab1 cnt1 c1 c2 c3 c4 c5 c6 c7=>(mx ((c3 a).mpr ⟨haN,hac⟩)).elim λi hi=>?_;have hus:=DH (DC (jM c2 ((c3 a).mpr ⟨haN,hac⟩) c7) H1.S2) (show 60 < 10000 by decide);refine ⟨_,hs,_,a9 H1.R.h rfl,_,af.put_self _ _ _,bz c1 (ja _ _) (gL c2 hi) ⟨_,fe (c5 _ hi).2 rfl,_,hn,mo rfl (c5 _ hi).2 hus λσ7 u7=>hP' _ _ ?_⟩⟩;refine .mk (pre ++ [a]) (λc=>if c=a then us1 a ++ [nd.length] else us1 c) hs hn (ht.trans (u7.st rfl (.inr (.inr trivial)))) ((u7.ne _ (by nofun)).trans hq) (er.trans (Ey pre [a] rem).symm) ?_ λc x=>?_
   · have k7:∀p,p≠.hUse i->σ7 p=σ' p:=u7.ne;exact {
      R:=H1.R.upd u7 trivial
      edges:=H1.edges.elim λl q=>⟨l,(k7 _ (by nofun)).trans q.1,q.2⟩
      forest:=H1.forest.elim λl q=>⟨l,(k7 _ (by nofun)).trans q.1,q.2⟩
      known:=(k7 _ (by nofun)).trans H1.known
      knN:=H1.knN
      above:=by
       rw [DG];exact H1.above.push haN hac (i:=i) (λab' hn' e=>Ai (PO.dict.inj (DN (c1.symm.trans e)))▸hi) (k7 _ (by nofun)) u7.at_ λj hj=>k7 _ λh=>hj (al.hUse.inj h)
      wait:=(k7 _ (by nofun)).trans H1.wait
      wtB:=H1.wtB
      E4:=H1.E4
      S2:=hlen}
   · show x∈(if c=a then us1 a ++ [nd.length] else us1 c)↔_;rw [Eb,DS];by_cases e:c=a
     · rw [if_pos e,Eb,DS,e,hu a x];exact ⟨λh=>h.elim (λh=>h.imp id λh=>⟨h.1,.inl h.2⟩) λh=>.inr ⟨h,.inr rfl⟩,λh=>h.elim (λh=>.inl (.inl h)) λh=>.inr h.1⟩
     · rw [if_neg e,hu c x];exact ⟨λh=>h.imp id λh=>⟨h.1,.inl h.2⟩,λh=>h.imp id λh=>⟨h.1,h.2.resolve_right e⟩⟩
 · rw [Eg] at er;have H2:=H1.weakS (S':=S+ks.length) (EF (er▸hrl) _) hS;have hu2:kg us us1 nd.length (ks.map cls):=λc x=>(hu c x).trans (by rw [← er,hmem]);have hm0:∀{m},((op,ks.map cls),m)∈kn->cls m < nd.length:=λhm=>DC (H.R.U.le _) (hkn _ hm);refine ⟨_,hs,_,aL H2.R.h rfl rfl,_,hn,?_⟩;refine jN G P H2 (n:=nd.length) (op:=op) (ks:=ks) (by rw [EW (DQ _),Ie];rfl) (D6 _) (λx hx=>En (hk x hx)) (λx hx=>En (hkn x hx)) hE (by rw [fL hcN];exact sW H.wtB)
    (λm hm hc σ8 t8 H8=>absurd (hc.trans hcN) (D1 (hm0 hm))) (λhm σ8 t8 H8=>⟨_,hn,hB hnew hm us1 hu2 _ (ht.trans t8) H8⟩) (λm kept gone hm hlt hc σ8 t8 H8=>⟨_,hn,hJ hnew m hm us1 hu2 _ (ht.trans t8) ?_⟩) k
   have hc':kept=cls m/\gone=nd.length:=hc.elim (λh=>⟨h.1,h.2.trans hcN⟩) λh=>absurd hlt (by rw [h.1,h.2,hcN];exact E2.mpr (D9 (hm0 hm)));rw [hc'.1,hc'.2] at H8;exact H8
noncomputable abbrev av:=List (Str×List Nat)
noncomputable def uL(R:Nat->Nat->Prop)(ks ls:List Nat):Prop:=ks.length=ls.length/\∀(p:Nat) (a b:Nat),ks[p]? = some a->ls[p]? = some b->R a b
structure gM(nd:av)(eqs:List (Nat×Nat))(R:Nat->Nat->Prop):Prop where
 refl:∀a,R a a
 symm:∀{a b},R a b->R b a
 trans:∀{a b c},R a b->R b c->R a c
 held:∀x∈eqs,R x.1 x.2
 cong:∀{i j:Nat} {op:Str} {ks ls:List Nat},nd[i]? = some (op,ks)->nd[j]? = some (op,ls)->uL R ks ls->R i j
noncomputable def CC(nd:av)(eqs:List (Nat×Nat))(a b:Nat):Prop:=∀R,gM nd eqs R->R a b
theorem iU{nd e:av}{i:Nat}{x:Str×List Nat}(h:nd[i]? = some x):(nd ++ e)[i]? = some x:=by
 rw [FY (DR.mp h).1];exact h
theorem gM.sub{nd e:av}{eqs eqs':List (Nat×Nat)}{R:Nat->Nat->Prop}(h:gM (nd ++ e) eqs' R)(he:∀x∈eqs,x∈eqs'):gM nd eqs R where
 refl:=h.refl
 symm:=h.symm
 trans:=h.trans
 held:=λx hx=>h.held x (he x hx)
 cong:=λh1 h2 h3=>h.cong (iU h1) (iU h2) h3
theorem CC.mono{nd e:av}{eqs eqs':List (Nat×Nat)}{a b:Nat}(h:CC nd eqs a b)(he:∀x∈eqs,x∈eqs'):CC (nd ++ e) eqs' a b:=λR hR=>h R (hR.sub he)
theorem CC.monoE{nd:av}{eqs eqs':List (Nat×Nat)}{a b:Nat}(h:CC nd eqs a b)(he:∀x∈eqs,x∈eqs'):CC nd eqs' a b:=by
 have:=h.mono (e:=[]) he
 rwa [Eg] at this
theorem CC.rfl{nd:av}{eqs:List (Nat×Nat)}{a:Nat}:CC nd eqs a a:=λ_ hR=>hR.refl a
theorem CC.sym{nd:av}{eqs:List (Nat×Nat)}{a b:Nat}(h:CC nd eqs a b):CC nd eqs b a:=λR hR=>hR.symm (h R hR)
theorem CC.tr{nd:av}{eqs:List (Nat×Nat)}{a b c:Nat}(h:CC nd eqs a b)(h':CC nd eqs b c):CC nd eqs a c:=λR hR=>hR.trans (h R hR) (h' R hR)
theorem CC.closed(nd:av)(eqs:List (Nat×Nat)):gM nd eqs (CC nd eqs) where
 refl:=λ_=>CC.rfl
 symm:=CC.sym
 trans:=CC.tr
 held:=λx hx R hR=>hR.held x hx
 cong:=λh1 h2 h3 R hR=>hR.cong h1 h2 ⟨h3.1,λp a b ha hb=>h3.2 p a b ha hb R hR⟩
structure bq(nd:av)(eqs:List (Nat×Nat))(cls:Nat->Nat)(kn:List ((Str×List Nat)×Nat))(us:Nat->List Nat)(wt:List Nat):Prop where
 sound:∀a,CC nd eqs a (cls a)
 held:∀x∈eqs,x.1 < nd.length/\x.2 < nd.length/\cls x.1=cls x.2
 knS:∀x∈kn,∃ks,nd[x.2]? = some (x.1.1,ks)/\uL (CC nd eqs) ks x.1.2
 comp:∀n op ks,nd[n]? = some (op,ks)->n∉wt->∃m,((op,ks.map cls),m)∈kn/\cls m=cls n
 users:∀n op ks,nd[n]? = some (op,ks)->∀k∈ks,n∈us (cls k)
 usN:∀c x,x∈us c->x < nd.length
 wtN:∀x∈wt,x < nd.length
theorem qJ{nd:av}{eqs:List (Nat×Nat)}{cls:Nat->Nat}(h:∀a,CC nd eqs a (cls a))(ks:List Nat):uL (CC nd eqs) ks (ks.map cls):=
 ⟨(DD _).symm,λp a b ha hb=>by
  rw [Ef,ha] at hb;exact DN hb▸h a⟩
theorem bq.hit{nd:av}{eqs:List (Nat×Nat)}{cls:Nat->Nat}{kn:List ((Str×List Nat)×Nat)}{us:Nat->List Nat}{wt:List Nat}(C:bq nd eqs cls kn us wt){n m:Nat}{op:Str}{ks:List Nat}
 (hn:nd[n]? = some (op,ks)) (hm:((op,ks.map cls),m)∈kn):CC nd eqs m n:=by
 refine aN (C.knS _ hm) λls h1 h2=>?_;refine (CC.closed nd eqs).cong h1 hn ⟨h2.1.trans (DD _),λp a b ha hb=>?_⟩;have:(ks.map cls)[p]? = some (cls b):=by rw [Ef,hb];rfl
 exact (h2.2 p a _ ha this).tr (C.sound b).sym
theorem gn{cls:Nat->Nat}{kept gone:Nat}{x y:Nat}(h:cls x=cls y):aO cls kept gone x=aO cls kept gone y:=by unfold aO;rw [h]
theorem mB{cls:Nat->Nat}{kept gone m n:Nat}(hlt:kept < gone)(hc:kept=cls m/\gone=cls n\/kept=cls n/\gone=cls m):aO cls kept gone m=kept/\aO cls kept gone n=kept:=by
 exact hc.elim (λh=>⟨(aR (h.1▸D1 hlt)).trans h.1.symm,be h.2.symm⟩) λh=>⟨be h.2.symm,(aR (h.1▸D1 hlt)).trans h.1.symm⟩
theorem bq.join{nd:av}{eqs eqs':List (Nat×Nat)}{cls:Nat->Nat}{kn:List ((Str×List Nat)×Nat)}{us:Nat->List Nat}{wt wt0:List Nat}(C:bq nd eqs cls kn us wt0){m n kept gone:Nat}
 (hlt:kept < gone) (hc:kept=cls m/\gone=cls n\/kept=cls n/\gone=cls m) (he:∀x∈eqs,x∈eqs') (he2:∀x∈eqs',x∈eqs\/(x=(m,n)/\m < nd.length/\n < nd.length)) (hmn:CC nd eqs' m n)
 (hw:∀x∈wt,x∈wt0) (hcomp:∀x op ks,nd[x]? = some (op,ks)->x∉wt->∃y,((op,ks.map cls),y)∈kn/\aO cls kept gone y=aO cls kept gone x) :
 bq nd eqs' (aO cls kept gone) kn (bT us kept gone) (wt ++ us gone):=by
 have hm:∀{a b},CC nd eqs a b->CC nd eqs' a b:=λ{a b} h=>CC.monoE h he;have hb:=mB hlt hc;have hkg:CC nd eqs' kept gone:=hc.elim (λh=>h.1▸h.2▸(hm (C.sound m)).sym.tr (hmn.tr (hm (C.sound n)))) λh=>h.1▸h.2▸(hm (C.sound n)).sym.tr (hmn.sym.tr (hm (C.sound m)));exact {
  sound:=λa=>by
   by_cases e:cls a=gone
   · rw [be e];exact (hm (C.sound a)).tr (e▸hkg.sym)
   · rw [aR e];exact hm (C.sound a)
  held:=λx hx=>(he2 x hx).elim (λh=>⟨(C.held x h).1,(C.held x h).2.1,gn (C.held x h).2.2⟩) λh=>by rw [h.1];exact ⟨h.2.1,h.2.2,hb.1.trans hb.2.symm⟩
  knS:=λx hx=>(C.knS x hx).imp λks h=>⟨h.1,h.2.1,λp a b ha hb=>hm (h.2.2 p a b ha hb)⟩
  comp:=λx op ks hx hnw=>(hcomp x op ks hx λh=>hnw (D7 _ h)).imp λy h=>⟨by
   rw [show ks.map (aO cls kept gone)=ks.map cls from El λk hk=>aR λe=>hnw (D0 _ (e▸C.users x op ks hx k hk))];exact h.1,h.2⟩
  users:=λx op ks hx k hk=>by
   have q:=C.users x op ks hx k hk;by_cases e:cls k=gone
   · rw [be e,bT,if_pos rfl];exact D0 _ (e▸q)
   · rw [aR e,bT];by_cases e2:cls k=kept
     · rw [if_pos e2];exact D7 _ (e2▸q)
     · rw [if_neg e2];exact q
  usN:=λc x hx=>by
   rw [bT] at hx;by_cases e:c=kept
   · rw [if_pos e] at hx;exact (Eb.mp hx).elim (C.usN _ _) (C.usN _ _)
   · rw [if_neg e] at hx;exact C.usN _ _ hx
  wtN:=λx hx=>(Eb.mp hx).elim (λh=>C.wtN _ (hw _ h)) (C.usN _ _)}
theorem lF{nd:av}{n:Nat}{op op':Str}{ks ks':List Nat}(h:nd[n]? = some (op,ks))(h':nd[n]? = some (op',ks')):op'=op/\ks'=ks:=E0 (DN (h'.symm.trans h))
theorem lG{α:Type}{l:List α}{x n:α}(h:x∉l)(e:x≠n):x∉l ++ [n]:=λq=>(Eb.mp q).elim h λq=>e (DS.mp q)
theorem bq.keeps(nd:av)(eqs:List (Nat×Nat)):zq nd (bq nd eqs) where
 wtN:=λcls kn us wt n C=>C.wtN n (D0 _ (.head _))
 knN:=λcls kn us wt C x hx=>(C.knS x hx).elim λks h=>(DR.mp h.1).1
 same:=λcls kn us wt n op ks m C hn hm hc=>{C with
  comp:=λx op' ks' hx hnw=>by
   by_cases e:x=n
   · have q:=lF hn (e▸hx);exact ⟨m,q.1▸q.2▸hm,e▸hc⟩
   · exact C.comp x op' ks' hx (lG hnw e)
  wtN:=λx hx=>C.wtN x (D7 _ hx)}
 new:=λcls kn us wt n op ks C hn hm=>{C with
  knS:=λx hx=>(Eb.mp hx).elim (C.knS x) λh=>by rw [DS.mp h];exact ⟨ks,hn,qJ C.sound ks⟩
  comp:=λx op' ks' hx hnw=>by
   by_cases e:x=n
   · have q:=lF hn (e▸hx);exact ⟨n,D0 _ (q.1▸q.2▸.head _),e▸rfl⟩
   · exact (C.comp x op' ks' hx (lG hnw e)).imp λy h=>⟨D7 _ h.1,h.2⟩
  wtN:=λx hx=>C.wtN x (D7 _ hx)}
 join:=λcls kn us wt n op ks m kept gone C hn hm hlt hc=>
  C.join hlt hc (λ_ h=>h) (λ_ h=>.inl h) (C.hit hn hm) (λx hx=>D7 _ hx) λx op' ks' hx hnw=>by
   by_cases e:x=n
   · have q:=lF hn (e▸hx);have hb:=mB hlt hc;exact ⟨m,q.1▸q.2▸hm,e▸hb.1.trans hb.2.symm⟩
   · exact (C.comp x op' ks' hx (lG hnw e)).imp λy h=>⟨h.1,gn h.2⟩
theorem bq.merge{nd:av}{eqs:List (Nat×Nat)}{cls:Nat->Nat}{kn:List ((Str×List Nat)×Nat)}{us:Nat->List Nat}{wt:List Nat}(C:bq nd eqs cls kn us wt){m n kept gone:Nat}(hm:m < nd.length)(hn:n < nd.length)
 (hlt:kept < gone) (hc:kept=cls m/\gone=cls n\/kept=cls n/\gone=cls m):bq nd (eqs ++ [(m,n)]) (aO cls kept gone) kn (bT us kept gone) (wt ++ us gone):=
 C.join hlt hc (λx hx=>D7 _ hx) (λx hx=>(Eb.mp hx).imp id λh=>⟨DS.mp h,hm,hn⟩) (λR hR=>hR.held (m,n) (D0 _ (.head _))) (λ_ h=>h)
  λx op ks hx hnw=>(C.comp x op ks hx hnw).imp λy h=>⟨h.1,gn h.2⟩
theorem bq.merge0{nd:av}{eqs:List (Nat×Nat)}{cls:Nat->Nat}{kn:List ((Str×List Nat)×Nat)}{us:Nat->List Nat}{wt:List Nat}(C:bq nd eqs cls kn us wt){m n:Nat}(hm:m < nd.length)(hn:n < nd.length)
 (hc:cls m=cls n):bq nd (eqs ++ [(m,n)]) cls kn us wt:=by
 have hmo:∀{a b},CC nd eqs a b->CC nd (eqs ++ [(m,n)]) a b:=λ{a b} h=>CC.monoE h λx hx=>D7 _ hx;exact {C with
  sound:=λa=>hmo (C.sound a)
  held:=λx hx=>(Eb.mp hx).elim (C.held x) λh=>by rw [DS.mp h];exact ⟨hm,hn,hc⟩
  knS:=λx hx=>(C.knS x hx).imp λks h=>⟨h.1,h.2.1,λp a b ha hb=>hmo (h.2.2 p a b ha hb)⟩}
theorem gN{α:Type}(l:List α)(a:α):(l ++ [a])[l.length]? = some a:=by rw [EW (DQ _),Ie];rfl
theorem bq.add{nd:av}{eqs:List (Nat×Nat)}{cls:Nat->Nat}{kn:List ((Str×List Nat)×Nat)}{us us':Nat->List Nat}{wt:List Nat}(C:bq nd eqs cls kn us wt){op:Str}{ks:List Nat}(hlt:∀a,a < nd.length->cls a < nd.length)(hk:∀x∈ks,x < nd.length)(hkid:∀(i:Nat) (op:Str) (ks:List Nat),nd[i]? = some (op,ks)->∀k∈ks,k < i)
 (hu:kg us us' nd.length (ks.map cls)):bq (nd ++ [(op,ks)]) eqs cls (kn ++ [((op,ks.map cls),nd.length)]) us' wt:=by
 have hmo:∀{a b},CC nd eqs a b->CC (nd ++ [(op,ks)]) eqs a b:=λ{a b} h=>h.mono λ_ h=>h;have hs:∀a,CC (nd ++ [(op,ks)]) eqs a (cls a):=λa=>hmo (C.sound a);have hcase:∀{x:Nat} {op' ks'},(nd ++ [(op,ks)])[x]? = some (op',ks')->nd[x]? = some (op',ks')\/(x=nd.length/\op'=op/\ks'=ks):=λh=>(gF h).imp id λq=>⟨q.1,E0 q.2⟩;have hle:∀{a},a < nd.length->a < (nd ++ [(op,ks)]).length:=λh=>by rw [DG];exact En h
 exact {
  sound:=hs
  held:=λx hx=>⟨hle (C.held x hx).1,hle (C.held x hx).2.1,(C.held x hx).2.2⟩
  knS:=λx hx=>(Eb.mp hx).elim (λh=>(C.knS x h).imp λks h=>⟨iU h.1,h.2.1,λp a b ha hb=>hmo (h.2.2 p a b ha hb)⟩) λh=>by
   rw [DS.mp h];exact ⟨ks,gN nd _,qJ hs ks⟩
  comp:=λn op' ks' hn hnw=>(hcase hn).elim (λh=>(C.comp n op' ks' h hnw).imp λm h=>⟨D7 _ h.1,h.2⟩) λh=>by
   rw [h.1,h.2.1,h.2.2];exact ⟨nd.length,D0 _ (.head _),rfl⟩
  users:=λn op' ks' hn k hkm=>(hcase hn).elim (λh=>by
   have h3:=hlt k (DH (hkid n op' ks' h k hkm) (DR.mp h).1);exact (hu _ _).mpr (.inl ⟨D1 h3,C.users n op' ks' h k hkm⟩)) λh=>(hu _ _).mpr (.inr ⟨h.1,DO.mpr ⟨k,h.2.2▸hkm,rfl⟩⟩)
  usN:=λc x hx=>((hu c x).mp hx).elim (λh=>hle (C.usN c x h.2)) λh=>by rw [h.1,DG];exact D6 _
  wtN:=λx hx=>hle (C.wtN x hx)}
theorem bq.addJoin{nd:av}{eqs:List (Nat×Nat)}{cls:Nat->Nat}{kn:List ((Str×List Nat)×Nat)}{us us':Nat->List Nat}{wt:List Nat}(C:bq nd eqs cls kn us wt){op:Str}{ks:List Nat}(hle:∀a,cls a<=a)(hout:cls nd.length=nd.length)(hlt:∀a,a < nd.length->cls a < nd.length)(hk:∀x∈ks,x < nd.length)(hkid:∀(i:Nat) (op:Str) (ks:List Nat),nd[i]? = some (op,ks)->∀k∈ks,k < i)
 (hu:kg us us' nd.length (ks.map cls)) {m:Nat} (hm:((op,ks.map cls),m)∈kn):bq (nd ++ [(op,ks)]) eqs (aO cls (cls m) nd.length) kn (bT us' (cls m) nd.length) (wt ++ us' nd.length):=by
 have hml:m < nd.length:=(C.knS _ hm).elim λls h=>(DR.mp h.1).1;have C1:=C.add (op:=op) hlt hk hkid hu;have C2:bq (nd ++ [(op,ks)]) eqs cls kn us' (wt ++ [nd.length]):={C1 with
  knS:=λx hx=>C1.knS x (D7 _ hx)
  comp:=λn op' ks' hn hnw=>(gF hn).elim (λh=>C.comp n op' ks' h λq=>hnw (D7 _ q)) λh=>absurd (D0 _ (h.1▸.head _)) hnw
  wtN:=λx hx=>by
   rw [DG];exact eF (P:=λx=>x < nd.length+1) hx (λx h=>En (C.wtN x h)) (D6 _)}
 exact (bq.keeps _ eqs).join cls kn us' wt nd.length op ks m (cls m) nd.length C2 (gN nd _) hm (hlt m hml) (.inl ⟨rfl,hout.symm⟩)
theorem bq.nil:bq [] [] (λx=>x) [] (λ_=>[]) [] where
 sound:=λa=>CC.rfl
 held:=λx hx=>absurd hx DX
 knS:=λx hx=>absurd hx DX
 comp:=λn op ks h=>(Eh _ h.symm).elim
 users:=λn op ks h=>(Eh _ h.symm).elim
 usN:=λc x h=>absurd h DX
 wtN:=λx h=>absurd h DX
theorem ww{kn:List ((Str×List Nat)×Nat)}(hn:(kn.map (·.1)).Nodup){x:Str×List Nat}{m m':Nat}(h:(x,m)∈kn)(h':(x,m')∈kn):m=m':=by
 exact (E0 (jk hn h h' rfl)).2
theorem Aj{cls:Nat->Nat}{ks ls:List Nat}(h:uL (λa b=>cls a=cls b) ks ls):ks.map cls=ls.map cls:=
 JE (by rw [DD,DD];exact h.1) λp h1 h2=>by
  rw [GI,GI];exact h.2 p _ _ (DW (by rw [DD] at h1;exact h1)) (DW (by rw [DD] at h2;exact h2))
theorem bq.closed{nd:av}{eqs:List (Nat×Nat)}{cls:Nat->Nat}{kn:List ((Str×List Nat)×Nat)}{us:Nat->List Nat}(C:bq nd eqs cls kn us [])(hn:(kn.map (·.1)).Nodup):gM nd eqs λa b=>cls a=cls b where
 refl:=λ_=>rfl
 symm:=λh=>h.symm
 trans:=λh h'=>h.trans h'
 held:=λx hx=>(C.held x hx).2.2
 cong:=λ{i j op ks ls} hi hj h=>by
  refine aN (C.comp i op ks hi DX) λm h1 h2=>aN (C.comp j op ls hj DX) λm' h3 h4=>?_;rw [Aj h] at h1;rw [← h2,← h4,ww hn h1 h3]
theorem bq.iff{nd:av}{eqs:List (Nat×Nat)}{cls:Nat->Nat}{kn:List ((Str×List Nat)×Nat)}{us:Nat->List Nat}(C:bq nd eqs cls kn us [])(hn:(kn.map (·.1)).Nodup){a b:Nat}:cls a=cls b↔CC nd eqs a b:=
 ⟨λh=>(C.sound a).tr (h▸(C.sound b).sym),λh=>h _ (C.closed hn)⟩
noncomputable def oX:Str:=Dy "x"
noncomputable def oY:Str:=Dy "y"
noncomputable def dG:Str:=Dy "add"
noncomputable def fZ:Str:=Dy "mul"
noncomputable def gO:Str:=Dy "neg"
noncomputable def nums:List (Str×Int):=[(Dy "0",0),(Dy "1",1),(Dy "2",2),(Dy "-1",-1),(Dy "9",9),(Dy "40",40),
 (Dy "3",3),(Dy "4",4),(Dy "5",5),(Dy "6",6)]
noncomputable def eP(op:Str)(n:Nat):Prop:=(n=0/\(op=oX\/op=oY\/op∈nums.map (·.1)))\/(n=1/\op=gO)\/(n=2/\(op=dG\/op=fZ))
theorem eP.ok{op:Str}{n:Nat}(h:eP op n):fX op=true/\n<=2:=by
 have hn:∀o∈nums.map (·.1),fX o=true:=by decide +kernel
 have hb:([oX,oY,gO,dG,fZ].all fX)=true:=by decide +kernel
 have hm:∀{o},o∈[oX,oY,gO,dG,fZ]->fX o=true:=λh=>Et.mp hb _ h;exact h.elim (λh=>⟨h.2.elim (λe=>hm (e▸.head _)) λh=>h.elim (λe=>hm (e▸.tail _ (.head _))) (hn _),h.1▸Eo _⟩) λh=>h.elim (λh=>⟨hm (h.2▸.tail _ (.tail _ (.head _))),h.1▸E6 _⟩)
  λh=>⟨h.2.elim (λe=>hm (e▸.tail _ (.tail _ (.tail _ (.head _))))) λe=>hm (e▸.tail _ (.tail _ (.tail _ (.tail _ (.head _))))),h.1▸DQ _⟩
noncomputable def iC:Nat->PV->Nat->Prop
 | 0,_,_=>False
 | d+1,t,s=>∃(op:Str) (kss:List (PV×Nat)),t=.tup (.str op::kss.map (·.1))/\eP op kss.length/\s=(kss.map (·.2)).sum+1/\∀x∈kss,iC d x.1 x.2
theorem iC.depth:∀{d:Nat} {t:PV} {s:Nat},iC d t s->aK t<=d:=by
 intro d;induction d with
 | zero=>exact λh=>h.elim
 | succ d ih=>
  intro t s h;have go:∀l:List (PV×Nat),(∀x∈l,iC d x.1 x.2)->aP (l.map (·.1))<=d:=λl=>by
   induction l with
   | nil=>exact λ_=>Eo _
   | cons x r ihr=>exact λh=>JN.mpr ⟨ih (h x (.head _)),ihr λy hy=>h y (.tail _ hy)⟩
  refine h.elim λop h=>h.elim λkss h=>?_;rw [h.1];exact Ei (JN.mpr ⟨Eo _,go kss h.2.2.2⟩)
noncomputable def Wf(nd:av):Prop:=(∀x∈nd,eP x.1 x.2.length)/\∀k,k < nd.length->aK (tm nd k)<=4
theorem sY(nd:av)(op:Str)(ks:List Nat):tm (nd ++ [(op,ks)]) nd.length=.tup (.str op::ks.map (tm nd)):=by
 unfold tm;rw [lC,EA,EW (by rw [eX];exact DQ _),eX];rw [Ie];rfl
theorem Wf.snoc{nd:av}{op:Str}{ks:List Nat}(w:Wf nd)(h:eP op ks.length)(hd:aK (.tup (.str op::ks.map (tm nd)))<=4):Wf (nd ++ [(op,ks)]):=by
 refine ⟨λx hx=>(Eb.mp hx).elim (w.1 x) λe=>(DS.mp e).symm▸h,λk hk=>?_⟩;rw [DG] at hk;rcases Fh.mp hk with h1 | h1
 · rw [dE _ _ h1];exact w.2 k h1
 · rw [h1,sY];exact hd
inductive bG(σ:aa)(nd:av)(eqs:List (Nat×Nat))(cls:Nat->Nat)(E S:Nat):Prop
 | mk:Wf nd->∀kn us wt,ce σ nd nd.length cls kn us wt E S->bq nd eqs cls kn us wt->bG σ nd eqs cls E S
inductive cP(σ:aa)(nd:av)(eqs:List (Nat×Nat))(cls:Nat->Nat)(E S:Nat):Prop
 | mk:Wf nd->∀kn us,ce σ nd nd.length cls kn us [] E S->bq nd eqs cls kn us []->cP σ nd eqs cls E S
theorem cP.ok{σ:aa}{nd:av}{eqs:List (Nat×Nat)}{cls:Nat->Nat}{E S:Nat}(h:cP σ nd eqs cls E S):bG σ nd eqs cls E S:=
 h.casesOn λw kn us h1 h2=>⟨w,kn,us,[],h1,h2⟩
theorem bG.ro{σ σ':aa}{nd:av}{eqs:List (Nat×Nat)}{cls:Nat->Nat}{E S:Nat}(h:bG σ nd eqs cls E S)(r:Ro σ σ'):bG σ' nd eqs cls E S:=
 h.casesOn λw kn us wt h1 h2=>⟨w,kn,us,wt,h1.ro r,h2⟩
theorem cP.ro{σ σ':aa}{nd:av}{eqs:List (Nat×Nat)}{cls:Nat->Nat}{E S:Nat}(h:cP σ nd eqs cls E S)(r:Ro σ σ'):cP σ' nd eqs cls E S:=
 h.casesOn λw kn us h1 h2=>⟨w,kn,us,h1.ro r,h2⟩
theorem bG.rd{σ:aa}{nd:av}{eqs:List (Nat×Nat)}{cls:Nat->Nat}{E S:Nat}(h:bG σ nd eqs cls E S):bM σ nd nd.length cls:=
 h.casesOn λw kn us wt h1 h2=>h1.R
theorem cP.rd{σ:aa}{nd:av}{eqs:List (Nat×Nat)}{cls:Nat->Nat}{E S:Nat}(h:cP σ nd eqs cls E S):bM σ nd nd.length cls:=h.ok.rd
theorem bG.sound{σ:aa}{nd:av}{eqs:List (Nat×Nat)}{cls:Nat->Nat}{E S:Nat}(h:bG σ nd eqs cls E S)(a:Nat):CC nd eqs a (cls a):=
 h.casesOn λw kn us wt h1 h2=>h2.sound a
theorem cP.iff{σ:aa}{nd:av}{eqs:List (Nat×Nat)}{cls:Nat->Nat}{E S:Nat}(h:cP σ nd eqs cls E S){a b:Nat}:cls a=cls b↔CC nd eqs a b:=
 h.casesOn λw kn us h1 h2=>h2.iff h1.knN
theorem ce.weakE{σ:aa}{nd:av}{N:Nat}{cls:Nat->Nat}{kn:List ((Str×List Nat)×Nat)}{us:Nat->List Nat}{wt:List Nat}{E S E':Nat}(H:ce σ nd N cls kn us wt E S)(hE:E<=E')(h4:E' < 4000):ce σ nd N cls kn us wt E' S:=
 {H with
  edges:=H.edges.imp λ_ h=>⟨h.1,DM h.2 hE⟩
  forest:=H.forest.imp λ_ h=>⟨h.1,DM h.2 hE⟩
  wtB:=DM H.wtB (IU _ hE)
  E4:=h4}
theorem bG.weak{σ:aa}{nd:av}{eqs:List (Nat×Nat)}{cls:Nat->Nat}{E S E' S':Nat}(h:bG σ nd eqs cls E S)(hE:E<=E')(h4:E' < 4000)(hS:S<=S')(h6:S' < 60):bG σ nd eqs cls E' S':=
 h.casesOn λw kn us wt h1 h2=>⟨w,kn,us,wt,(h1.weakE hE h4).weakS hS h6,h2⟩
theorem iC.pos{d:Nat}{t:PV}{s:Nat}(h:iC d t s):1<=s:=by
 cases d with
 | zero=>exact h.elim
 | succ d=>exact h.elim λ_ h=>h.elim λ_ h=>h.2.2.1▸Ei (Eo _)
noncomputable def eG(l:List (PV×Nat)):Nat:=(l.map (·.2)).sum
theorem qK(l r:List (PV×Nat))(y:PV×Nat):eG (l ++ y::r)=eG l+(y.2+eG r):=by
 rw [eG,D4,IM];rfl
theorem jO(l:List (PV×Nat))(y:PV×Nat):eG (l ++ [y])=eG l+y.2:=qK l [] y
inductive sZ(eqs:List (Nat×Nat))(σ:aa)(nd:av)(E S:Nat)(kss rest:List (PV×Nat))(σ':aa):List PV->Prop
 | mk (pre ns e cls' S1):S1+pre.length<=S+eG pre->kss=pre ++ rest->St bp σ σ'->bG σ' (nd ++ e) eqs cls' (E+eG pre) S1->e.length<=eG pre->ns.map (tm (nd ++ e))=pre.map (·.1)->(∀x∈ns,x < (nd ++ e).length)->sZ eqs σ nd E S kss rest σ' (ai ns)
theorem yd{c:Cx}(G:Gd c)(P:aD c)(eqs:List (Nat×Nat))(k:Nat):∀(d:Nat) (t:PV) (s:Nat) (σ:aa) (nd:av) (cls:Nat->Nat) (E S:Nat) (Q:PV->aa->Prop),bG σ nd eqs cls E S->iC d t s->d<=4->nd.length+s < 60->E+s+1 < 4000->S+s < 60->
 (∀(n:Nat) (e:av) (σ':aa) (cls':Nat->Nat),St bp σ σ'->bG σ' (nd ++ e) eqs cls' (E+s) (S+s - 1)->e.length<=s->n < (nd ++ e).length->tm (nd ++ e) n=t->Q (.int (n:Nat)) σ')->
 aj c (k+5+d) .h_put [.ref .heap,t] σ Q:=by
 intro d;induction d with
 | zero=>exact λt s σ nd cls E S Q _ ht=>ht.elim
 | succ d ih=>
  intro t s σ nd cls E S Q H ht hd8 hb1 hb2 hb3 hQ;have htd:=DM ht.depth hd8;refine pO ht λop kss et ho hs hkss=>?_;have hs:s=eG kss+1:=hs;rw [et] at htd ⊢;have hok:=ho.ok;have hlen:(kss.map (·.1)).length+1 < ay:=by rw [DD];exact au (DC (Ei hok.2) (by decide))
  show aj c (k+5+d+1) .h_put _ σ Q;refine aw G P .h_put rfl ?_;refine ⟨_,rfl,_,aL H.rd.h rfl rfl,_,rfl,.tup (F9 0) (by decide) rfl ⟨_,rfl,fQ hlen (cW (EE hlen) ?_)⟩⟩;refine i6 (λx:PV×Nat=>x.1) (λrest acc σ'=>sZ eqs σ nd E S kss rest σ' acc) (λy rest acc σ' I=>I.casesOn λpre ns e cls' S1 hS1 ek ht H' he hns hnl=>?_)
   (λacc σ' I=>I.casesOn λpre ns e cls' S1 hS1 ek ht H' he hns hnl=>⟨trivial,bo λm σ1 r1 l1=>?_⟩) kss _ _ (.mk [] [] [] cls S (DQ _) rfl St.refl (by rw [Eg];exact H) (DQ _) rfl λ_ h=>absurd h DX)
  · have hnsl:ns.length=pre.length:=(DD _).symm.trans ((congrArg Gl hns).trans (DD _));have hyk:=hkss y (ek▸D0 _ (.head _));have hy1:=hyk.pos;have hks:eG kss=eG pre+(y.2+eG rest):=ek▸qK pre rest y;have hpl:pre.length<=2:=DM (by rw [ek,DG];exact Ed _ _) hok.2;have hN:(nd ++ e).length=nd.length+e.length:=DG;refine ⟨trivial,by rw [ah,hnsl];exact au (DC hpl (by decide)),_,rfl,λP' hP'=>iT rfl ⟨_,rfl,_,aL H'.rd.h rfl rfl,y.1,rfl,?_⟩⟩;refine ih y.1 y.2 σ' (nd ++ e) cls' _ _ _ H' hyk (D9 hd8) (by rw [hN];lia) (by lia) (by lia) λn e2 σ2 cls2 t2 H2 he2 hn2 ht2=>?_;rw [Ey] at H2 hn2 ht2;have hle:(nd ++ e).length<=(nd ++ (e ++ e2)).length:=by rw [← Ey,DG (as:=nd ++ e)];exact Ed _ _
    rw [dO];refine hP' _ _ (.mk (pre ++ [y]) (ns ++ [n]) (e ++ e2) cls2 (S1+y.2 - 1) (by rw [jO,DG];show _+(pre.length+1)<=_;lia) (ek.trans (Ey pre [y] rest).symm) (ht.trans t2) (by rw [jO,← Hs];exact H2) (by rw [jO,DG];exact Gb he he2) ?_ λz hz=>eF (P:=λz=>z < (nd ++ (e ++ e2)).length) hz (λz hz=>DI (hnl z hz) hle) hn2);rw [D4,D4,HI,HI,ht2,← hns];exact congrArg (· ++ [y.1]) (El λz hz=>by rw [← Ey];exact dE _ _ (hnl z hz))
  · rw [Eg] at ek;rw [← ek] at hS1 H' he hns;have hnsl:ns.length=kss.length:=(DD _).symm.trans ((congrArg Gl hns).trans (DD _));have hn2:ns.length<=2:=hnsl▸hok.2;refine bC.tupL l1 (by rw [ah];exact au (DC hn2 (by decide))) ?_;have t1:St bp σ σ1:=ht.trans (Ro.weak r1);have H1:=H'.ro r1;refine H1.casesOn λw kn us wt HA C=>?_;have hkid:∀(i:Nat) (op:Str) (ks:List Nat),(nd ++ e)[i]? = some (op,ks)->∀k∈ks,k < i:=λi op ks h=>(HA.R.B.kids i op ks h).2.2;have htm:PV.tup (.str op::ns.map (tm (nd ++ e)))=.tup (.str op::kss.map (·.1)):=by rw [hns]
    have hN:(nd ++ e).length=nd.length+e.length:=DG;have hN1:(nd ++ e).length+1=(nd ++ e ++ [(op,ns)]).length:=(DG (as:=nd ++ e) (bs:=[(op,ns)])).symm;have hd4:aK (.tup (.str op::ns.map (tm (nd ++ e))))<=4:=htm▸htd;have hw2:=w.snoc (hnsl▸ho:eP op ns.length) hd4;have he1:(e ++ [(op,ns)]).length<=s:=by rw [DG,hs];exact Ei he
    have hEs:E+eG kss+1<=E+s:=Ee (by rw [hs];rfl);have hSs:S1+ns.length<=S+s - 1:=by rw [hnsl,hs];exact hS1
    have fin:∀(σ2:aa) (cls2:Nat->Nat),St bp σ1 σ2->bG σ2 (nd ++ e ++ [(op,ns)]) eqs cls2 (E+eG kss+1) (S1+ns.length)->Q (.int ((nd ++ e).length:Nat)) σ2:=λσ2 cls2 t2 H3=>by
     have hk2:=H3.rd.B.kids;have hl:=gN (nd ++ e) (op,ns);have htl:tm (nd ++ e ++ [(op,ns)]) (nd ++ e).length=.tup (.str op::kss.map (·.1)):=by rw [sY,hns]
     rw [Ey] at H3 hl htl;exact hQ _ (e ++ [(op,ns)]) σ2 cls2 (t1.trans t2) (H3.weak hEs (by lia) hSs (by lia)) he1 (DR.mp hl).1 (htl.trans et.symm)
    rw [show k+5+d=k+d+5 by lia];refine lE G P HA (op:=op) (ks:=ns) hok.1 hn2 hnl (by lia) (by lia) (by lia) ((bq.keeps (nd ++ e) eqs).knN _ _ _ _ C) (λi hi=>?_) (λhnew hnk us' hu σ2 t2 H2=>fin _ _ t2 (bG.mk hw2 _ _ _ (hN1▸H2) (C.add (op:=op) (λa ha=>HA.R.U.lt ha) hnl hkid hu)))
     (λhnew m2 hm2 us' hu σ2 t2 H2=>fin _ _ t2 (bG.mk hw2 _ _ _ (hN1▸H2) (C.addJoin (op:=op) HA.R.U.le (HA.R.U.out _ (DQ _)) (λa ha=>HA.R.U.lt ha) hnl hkid hu hm2))) (k+d)
    exact hQ i e σ1 cls' t1 (H1.weak (by lia) (by lia) (by lia) (by lia)) (by lia) (DR.mp hi).1 ((eY hkid hi).trans (htm.trans et.symm))
inductive kY(σ:aa)(ks rest:List Nat)(σ':aa):List PV->Prop
 | mk (pre):ks=pre ++ rest->Ro σ σ'->kY σ ks rest σ' (ai pre)
theorem jP{c:Cx}(G:Gd c)(P:aD c){eqs:List (Nat×Nat)}{nd:av}{cls:Nat->Nat}{E S:Nat}(hb1:nd.length+1 < 60)(hb2:E+2 < 4000)(hb3:S+2 < 60)(k:Nat) :
 ∀(d:Nat) (n:Nat) (s:Nat) (σ:aa) (Q:PV->aa->Prop),bG σ nd eqs cls E S->iC d (tm nd n) s->n < nd.length->(∀σ',Ro σ σ'->Q (.int (n:Nat)) σ')->
 aj c (k+5+d) .h_put [.ref .heap,tm nd n] σ Q:=by
 intro d;induction d with
 | zero=>exact λn s σ Q _ ht=>ht.elim
 | succ d ih=>
  intro n s σ Q H ht hn hQ;refine pO ht λop kss et ho hs hkss=>?_;have hok:=ho.ok;have hkid:∀(i:Nat) (op:Str) (ks:List Nat),nd[i]? = some (op,ks)->∀k∈ks,k < i:=λi op ks h=>(H.rd.B.kids i op ks h).2.2;have hx:nd[n]? = some (nd[n].1,nd[n].2):=DW hn;generalize nd[n].1=op2 at hx;generalize nd[n].2=ks at hx;rw [eY hkid hx] at et ⊢;have e:=ES (PV.tup.inj et);rw [PV.str.inj e.1] at hx ⊢;have hl:ks.length<=2:=((DD _).symm.trans ((congrArg Gl e.2).trans (DD _))).symm▸hok.2;have hlen:(ks.map (tm nd)).length+1 < ay:=by rw [DD];exact au (DC (Ei hl) (by decide))
  have hkn:∀x∈ks,x < nd.length:=λx h=>DH (hkid n op ks hx x h) hn;show aj c (k+5+d+1) .h_put _ σ Q;refine aw G P .h_put rfl ?_;refine ⟨_,rfl,_,aL H.rd.h rfl rfl,_,rfl,.tup (F9 0) (by decide) rfl ⟨_,rfl,fQ hlen (cW (EE hlen) ?_)⟩⟩;refine i6 (tm nd) (λrest acc σ'=>kY σ ks rest σ' acc) (λy rest acc σ' I=>I.casesOn λpre ek hr=>?_) (λacc σ' I=>I.casesOn λpre ek hr=>⟨trivial,bo λm σ1 r1 l1=>?_⟩) ks _ _ (.mk [] rfl St.refl)
  · have hyk:y∈ks:=ek▸D0 _ (.head _);have hpl:pre.length<=2:=DM (by rw [ek,DG];exact Ed _ _) hl;refine (DO.mp (e.2▸DO.mpr ⟨y,hyk,rfl⟩:tm nd y∈kss.map (·.1))).elim λz q=>?_;exact ⟨trivial,by rw [ah];exact au (DC hpl (by decide)),_,rfl,λP' hP'=>iT rfl ⟨_,rfl,_,aL (H.ro hr).rd.h rfl rfl,_,rfl,ih y z.2 σ' _ (H.ro hr) (q.2▸hkss z q.1) (hkn y hyk) λσ2 hr2=>
     dO pre y▸hP' _ _ (.mk (pre ++ [y]) (ek.trans (Ey pre [y] rest).symm) (hr.trans hr2))⟩⟩
  · rw [Eg] at ek;rw [← ek] at l1;refine bC.tupL l1 (by rw [ah];exact au (DC hl (by decide))) ?_;have r:=hr.trans r1;refine (H.ro r).casesOn λw kn us wt HA C=>?_;have hmem:(op,ks)∈nd:=EC hx;rw [show k+5+d=k+d+5 from Je k 5 d];exact lE G P HA hok.1 hl hkn hb1 hb2 (DC (EF hl S) hb3) ((bq.keeps nd eqs).knN _ _ _ _ C) (λi hi=>(G1 (DR.mp hi).1 H.rd.B.nodup).mp (hi.trans hx.symm)▸hQ _ r)
     (λh=>absurd hmem h) (λh=>absurd hmem h) (k+d)
theorem qL{c:Cx}(G:Gd c)(P:aD c){eqs:List (Nat×Nat)}{nd:av}{cls:Nat->Nat}{E S:Nat}{σ:aa}(H:bG σ nd eqs cls E S){a b:Nat}{reason:PV}(ha:a < nd.length)(hb:b < nd.length)(hE:E+1 < 4000){Q:PV->aa->Prop}
 (hQ:∀cls' σ' r,St bp σ σ'->bG σ' nd (eqs ++ [(a,b)]) cls' (E+1) S->((cls a=cls b/\cls'=cls)\/∃kept gone,kept < gone/\(kept=cls a/\gone=cls b\/kept=cls b/\gone=cls a)/\cls'=aO cls kept gone)->Q r σ') (k:Nat) :
 aj c (k+4) .h_merge [.ref .heap,.int (a:Nat),.int (b:Nat),reason] σ Q:=
 H.casesOn λw kn us wt HA C=>uJ G P HA ha hb hE (λhc σ' t H'=>hQ cls σ' _ t ⟨w,kn,us,wt,H',C.merge0 ha hb hc⟩ (.inl ⟨hc,rfl⟩))
  (λkept gone hlt hc σ' t H'=>hQ _ σ' _ t ⟨w,kn,_,_,H'.weakE (E6 _) hE,C.merge ha hb hlt hc⟩ (.inr ⟨kept,gone,hlt,hc,rfl⟩)) k
theorem jQ{c:Cx}(G:Gd c)(P:aD c){eqs:List (Nat×Nat)}{nd:av}{cls:Nat->Nat}{E S:Nat}{σ:aa}(H:bG σ nd eqs cls E S)(hE:E+1 < 4000){Q:PV->aa->Prop}
 (hQ:∀cls' σ',St bp σ σ'->cP σ' nd eqs cls' E S->Q .none σ') (k:Nat):aj c (k+5) .h_settle [.ref .heap] σ Q:=
 H.casesOn λw kn us wt HA C=>sh G P HA (bq.keeps nd eqs) C hE (λσ' cls' kn' us' t H' C'=>hQ cls' σ' t ⟨w,kn',us',H',C'⟩) k
noncomputable def hO(p:al):Prop:=bp p\/p=.heap\/p=.bank\/p=.unions
theorem qM{I:al->Prop}{σ σ':aa}{p q:al}(hp:p.isLoc=false)(hq:q.isLoc=false)(ip:I p)(iq:I q)(f:∀r,r≠p->r≠q->σ' r=σ r):St I σ σ':=
 ⟨λr hr _=>f r (λe=>EU (hp.symm.trans (e▸hr))) λe=>EU (hq.symm.trans (e▸hr)),λr _ hn=>f r (λe=>hn (e▸ip)) λe=>hn (e▸iq)⟩
theorem wx{c:Cx}(G:Gd c)(P:aD c){σ:aa}(hh:σ .heap=some (.inst .heap []))(h0:∀p,hO p->p≠.heap->σ p=none){Q:PV->aa->Prop}
 (hQ:∀σ',St hO σ σ'->cP σ' [] [] (λx=>x) 0 0->Q .none σ') (k:Nat):aj c (k+3) .h_init [.ref .heap] σ Q:=by
 refine aw G P .h_init rfl ?_;have hp:∀p,bp p->σ p=none:=λp h=>h0 p (.inl h) λe=>(e▸h:bp .heap).elim id λh=>h.elim id id;have u1:=upd σ .bank (.inst .bank []);refine ⟨k+1,rfl,.bank,h0 _ (.inr (.inr (.inl rfl))) (by decide),?_⟩;generalize σ.set .bank _=σ1 at u1 ⊢;have b1:∀p,bW p->σ1 p=none:=λp h=>(u1.ne p λe=>(e▸h:bW .bank)).trans (hp p (.inr (.inl h)));refine wi G P u1.at_ (b1 _ trivial) (b1 _ trivial) (b1 _ trivial) (b1 _ trivial) (λσ2 t2 B2=>?_) k;have k2:∀p,p.isLoc=false->p≠.bank->¬bW p->σ2 p=σ p:=λp h1 h2 h3=>(t2.oth p h1 λh=>h.elim h2 h3).trans (u1.ne p h2);have hh2:=(k2 .heap rfl (by decide) id).trans hh;refine ⟨rfl,hG rfl hh2 (by decide) (by decide) ?_⟩;have u3:=upd σ2 .heap (.inst .heap (dy [] "bank" (.ref .bank)));generalize σ2.set .heap _=σ3 at u3 ⊢;refine ⟨k+1,rfl,.unions,(u3.ne _ (by decide)).trans ((k2 _ rfl (by decide) id).trans (h0 _ (.inr (.inr (.inr rfl))) (by decide))),?_⟩;have u4:=upd σ3 .unions (.inst .unions []);generalize σ3.set .unions _=σ4 at u4 ⊢;have k4:∀p,p.isLoc=false->p≠.bank->¬bW p->p≠.heap->p≠.unions->σ4 p=σ p:=λp h1 h2 h3 h4 h5=>(u4.ne p h5).trans ((u3.ne p h4).trans (k2 p h1 h2 h3));have c4:∀p,cB p->σ4 p=none:=λp h=>(k4 p (cB.isLoc p h) (λe=>(e▸h:cB .bank)) (λb=>bW.notU p b h) (λe=>(e▸h:cB .heap)) λe=>(e▸h:cB .unions)).trans (hp p (.inl h));refine v9 G P u4.at_ (c4 _ trivial) (c4 _ trivial) (c4 _ trivial) (λi=>c4 _ trivial) (λσ5 t5 U5=>?_) k;have k5:∀p,p.isLoc=false->p≠.unions->¬cB p->σ5 p=σ4 p:=λp h1 h2 h3=>t5.oth p h1 λh=>h.elim h2 h3;have c5:∀p,gK p->p.isLoc=false->σ5 p=none:=λp h h1=>(k5 p h1 (λe=>(e▸h:gK .unions)) λu=>cB.notH p u h).trans ((k4 p h1 (λe=>(e▸h:gK .bank)) (λb=>bW.notH p b h) (λe=>(e▸h:gK .heap)) λe=>(e▸h:gK .unions)).trans (hp p (.inr (.inr h))));have hh5:=(k5 .heap rfl (by decide) id).trans ((u4.ne _ (by decide)).trans u3.at_);refine ⟨rfl,hG rfl hh5 (by decide) (by decide) ?_⟩;have u6:=upd σ5 .heap (.inst .heap (dy (dy [] "bank" (.ref .bank)) "unions" (.ref .unions)));generalize σ5.set .heap _=σ6 at u6 ⊢;refine gH (p:=.hEdges) ((u6.ne _ (by decide)).trans (c5 _ trivial rfl)) (by decide) rfl u6.at_ (by decide) (by decide) λσ7 b7 n7 f7=>?_;have g7:∀p,p≠.heap->p≠.hEdges->σ7 p=σ5 p:=λp a b=>(f7 p b a).trans (u6.ne p a);refine gH (p:=.hForest) ((g7 _ (by decide) (by decide)).trans (c5 _ trivial rfl)) (by decide) rfl b7 (by decide) (by decide) λσ8 b8 n8 f8=>?_;have g8:∀p,p≠.heap->p≠.hEdges->p≠.hForest->σ8 p=σ5 p:=λp a b d=>(f8 p d a).trans (g7 p a b);refine gH (p:=.hKnown) ((g8 _ (by decide) (by decide) (by decide)).trans (c5 _ trivial rfl)) (by decide) rfl b8 (by decide) (by decide) λσ9 b9 n9 f9=>?_;have g9:∀p,p≠.heap->p≠.hEdges->p≠.hForest->p≠.hKnown->σ9 p=σ5 p:=λp a b d e=>(f9 p e a).trans (g8 p a b d);refine gH (p:=.hAbove) ((g9 _ (by decide) (by decide) (by decide) (by decide)).trans (c5 _ trivial rfl)) (by decide) rfl b9 (by decide) (by decide) λτ b10 n10 f10=>?_;have g10:∀p,p≠.heap->p≠.hEdges->p≠.hForest->p≠.hKnown->p≠.hAbove->τ p=σ5 p:=λp a b d e f=>(f10 p f a).trans (g9 p a b d e);refine gH (p:=.hWaiting) ((g10 _ (by decide) (by decide) (by decide) (by decide) (by decide)).trans (c5 _ trivial rfl)) (by decide) rfl b10 (by decide) (by decide) λσ' b11 n11 f11=>hQ σ' ?_ ?_
 · have hi:hO .heap:=.inr (.inl rfl);have a:∀{p},gK p->hO p:=λh=>.inl (.inr (.inr h));exact (u1.st rfl (.inr (.inr (.inl rfl)))).trans ((t2.weak λp h=>h.elim (λh=>.inr (.inr (.inl h))) λh=>.inl (.inr (.inl h))).trans ((u3.st rfl hi).trans ((u4.st rfl (.inr (.inr (.inr rfl)))).trans
    ((t5.weak λp h=>h.elim (λh=>.inr (.inr (.inr h))) λh=>.inl (.inl h)).trans ((u6.st rfl hi).trans ((qM rfl rfl (a (p:=.hEdges) trivial) hi f7).trans ((qM rfl rfl (a (p:=.hForest) trivial) hi f8).trans ((qM rfl rfl (a (p:=.hKnown) trivial) hi f9).trans ((qM rfl rfl (a (p:=.hAbove) trivial) hi f10).trans (qM rfl rfl (a (p:=.hWaiting) trivial) hi f11))))))))))
 · have g:∀p,p≠.heap->¬gK p->σ' p=σ5 p:=λp h n=>(f11 p (λe=>n (e▸trivial)) h).trans (g10 p h (λe=>n (e▸trivial)) (λe=>n (e▸trivial)) (λe=>n (e▸trivial)) λe=>n (e▸trivial));refine ⟨⟨λ_ h=>absurd h DX,λk h=>absurd h (Fy k)⟩,[],λ_=>[],?_,bq.nil⟩;exact {
    R:=⟨b11,B2.of_eq λp hp=>(g p (hp.elim (λe=>e▸nofun) λb e=>(e▸b:bW .heap)) (hp.elim (λe=>e▸id) (bW.notH p))).trans ((k5 p (hp.elim (λe=>e▸rfl) (bW.isLoc p)) (hp.elim (λe=>e▸nofun) λb e=>(e▸b:bW .unions)) (hp.elim (λe=>e▸id) (bW.notU p))).trans
     ((u4.ne p (hp.elim (λe=>e▸nofun) λb e=>(e▸b:bW .unions))).trans (u3.ne p (hp.elim (λe=>e▸nofun) λb e=>(e▸b:bW .heap))))),
     U5.of_eq λp hp=>g p (hp.elim (λe=>e▸nofun) λb e=>(e▸b:cB .heap)) (hp.elim (λe=>e▸id) (cB.notH p))⟩
    edges:=⟨[],(f11 _ (by decide) (by decide)).trans ((f10 _ (by decide) (by decide)).trans ((f9 _ (by decide) (by decide)).trans ((f8 _ (by decide) (by decide)).trans n7))),DQ 0⟩
    forest:=⟨[],(f11 _ (by decide) (by decide)).trans ((f10 _ (by decide) (by decide)).trans ((f9 _ (by decide) (by decide)).trans n8)),DQ 0⟩
    known:=(f11 _ (by decide) (by decide)).trans ((f10 _ (by decide) (by decide)).trans n9)
    knN:=Fg
    above:=⟨[],0,(f11 _ (by decide) (by decide)).trans n10,Fg,λc=>⟨λh=>absurd h DX,λh=>absurd h.1 (Fy c)⟩,Fg,λ_ h=>absurd h DX,
     λi _=>(f11 _ (by nofun) (by nofun)).trans ((g10 _ (by nofun) (by nofun) (by nofun) (by nofun) (by nofun)).trans (c5 _ trivial rfl)),Eo _⟩
    wait:=n11
    wtB:=DQ 0
    E4:=by decide
    S2:=by decide}
inductive Va where
 | non | num (i:Int) | bad
 deriving DecidableEq
noncomputable def wy:Str:=Dy "clash"
noncomputable def Va.pv:Va->PV
 | .non=>.none | .num i=>.int i | .bad=>.str wy
theorem Va.pv_inj{a b:Va}(h:a.pv=b.pv):a=b:=by
 cases a with
 | non=>cases b with
  | non=>rfl
  | _=>exact nomatch h
 | num i=>cases b with
  | num j=>exact congrArg _ (PV.int.inj h)
  | _=>exact nomatch h
 | bad=>cases b with
  | bad=>rfl
  | _=>exact nomatch h
noncomputable def dt:Va->Va->Va
 | .non,b=>b
 | a,.non=>a
 | a,b=>if a=b then a else .bad
noncomputable def numOf(op:Str):Option Int:=(nums.find? λx=>decide (x.1=op)).map (·.2)
noncomputable def bR(n:Int)(op:Str):List Va->Va
 | []=>(match numOf op with | some i=>.num (i.fmod n) | none=>.non)
 | [a]=>(match a with | .non=>.non | .bad=>.bad | .num i=>.num ((-i).fmod n))
 | [a,b]=>(match a,b with | .non,_=>.non | _,.non=>.non | .bad,_=>.bad | _,.bad=>.bad | .num i,.num j=>.num ((if op=dG then i+j else i*j).fmod n))
 | _=>.non
noncomputable def Va.ok(n:Nat)(v:Va):Prop:=∀i,v=.num i->0<=i/\i < (n:Int)
noncomputable def nC:Str:=Dy "0123456789"
noncomputable def qN:Str:=Dy "-"
noncomputable def uM(a b:Str):Bool:=decide (a=b)
noncomputable def dj(op:Str):Str:=if uM (bQ op none (some ((1:Int).toNat,0))) qN=true then bQ op (some ((1:Int).toNat,0)) none else op
noncomputable def cM(d:Str):List PV:=(d.cps.toList.map λc=>PV.str ⟨#[c]⟩).filter λv=>match v with | .str s=>!Txt.contains nC s | _=>false
structure CQ(op:Str)(r:Option Int):Prop where
 w1:(bQ op none (some ((1:Int).toNat,0))).length < 10000
 w2:Ff (bQ op none (some ((1:Int).toNat,0)))=true
 w3:op.length<=640
 w4:(bQ op (some ((1:Int).toNat,0)) none).length < 10000
 w5:0 < (dj op).length
 w6:(dj op).length<=1000
 w7:plains (cM (dj op))=true
 w8:aP (cM (dj op))<=8
 w9:r=if (cM (dj op)).isEmpty=true then I1 op else none
 w10:(cM (dj op)).isEmpty=true->r.isSome=true
noncomputable def ye(op:Str)(r:Option Int):Bool:=
 (bQ op none (some ((1:Int).toNat,0))).length.blt 10000 && (Ff (bQ op none (some ((1:Int).toNat,0))) && (op.length.ble 640 && ((bQ op (some ((1:Int).toNat,0)) none).length.blt 10000 && (Nat.blt 0 (dj op).length && ((dj op).length.ble 1000 &&
  (plains (cM (dj op)) && ((aP (cM (dj op))).ble 8 && (decide (r=if (cM (dj op)).isEmpty=true then I1 op else none) && decide ((cM (dj op)).isEmpty=true->r.isSome=true)))))))))
theorem bA{a b:Bool}{P:Prop}(h:(a && b)=true)(k:a=true->b=true->P):P:=k (DP.mp h).1 (DP.mp h).2
theorem pw{op:Str}(h:eP op 0):CQ op (numOf op):=by
 have hn:([oX,oY] ++ nums.map (·.1)).all (λo=>ye o (numOf o))=true:=by decide +kernel
 have ho:op∈[oX,oY] ++ nums.map (·.1):=h.elim (λh=>h.2.elim (λe=>e▸.head _) λh=>h.elim (λe=>e▸.tail _ (.head _)) λh=>D0 _ h) λh=>h.elim (λh=>nomatch h.1) λh=>nomatch h.1;exact bA (Et.mp hn op ho) λw1 h=>bA h λw2 h=>bA h λw3 h=>bA h λw4 h=>bA h λw5 h=>bA h λw6 h=>bA h λw7 h=>bA h λw8 h=>bA h λw9 w10=>
  ⟨Me.mp w1,w2,EZ w3,Me.mp w4,Me.mp w5,EZ w6,w7,EZ w8,of_decide_eq_true w9,of_decide_eq_true w10⟩
theorem yf(a b:Str):aG (.str a) (.str b)=uM a b:=by
 by_cases e:a=b
 · rw [e,aJ];exact (decide_eq_true rfl).symm
 · rw [aC λh=>e (PV.str.inj h)];exact (decide_eq_false e).symm
theorem Do{C:CP}{k:Nat}{op:Str}{ρ:af}{σ:aa}{Q:PV->aa->Prop}{p0 p1 p2 p3 p4:Pos}(hr:ρ "op" = some (.str op))(hl:(bQ op (some ((1:Int).toNat,0)) none).length < 10000)(h:Q (.str (dj op)) σ) :
 if uM (bQ op none (some ((1:Int).toNat,0))) qN=true then a8 C k (.slFrom (.var "op" p0) 1 p1 p2 p3) ρ σ Q else a8 C k (.var "op" p4) ρ σ Q:=by
 by_cases q:uM (bQ op none (some ((1:Int).toNat,0))) qN=true
 · rw [dj,if_pos q] at h;exact iT q ⟨_,hr,by decide,by decide,.str (au hl) h⟩
 · rw [dj,if_neg q] at h;exact iF q ⟨_,hr,h⟩
noncomputable def zr(v:PV):Bool:=match v with | .str s=>!Txt.contains nC s | _=>false
theorem sj{c:Cx}(G:Gd c)(P:aD c){σ:aa}{op:Str}(ho:eP op 0){Q:PV->aa->Prop}(hQ:∀σ',Ro σ σ'->Q (match numOf op with | some i=>.int i | none=>.none) σ')(k:Nat):aj c (k+1) .whole_of [.str op] σ Q:=by
 have W:=pw ho;generalize numOf op=r at W hQ;refine aw G P .whole_of rfl ?_;refine ⟨_,rfl,by decide,by decide,.str (au W.w1) (iS W.w2 (by decide +kernel) ?_)⟩;rw [yf];refine Do rfl W.w4 ⟨_,rfl,?_⟩;have h6:(dj op).length < ay:=au (DC W.w6 (by decide));refine .lenS h6 (sT (iT (decide_eq_true (EG.mpr W.w5)) (.le ?_)));rw [decide_eq_true (p:=((dj op).length:Int)<=1000) (HZ.mpr W.w6)];refine ⟨_,rfl,.str h6 (fM (λx=>x) zr (λ_ _=>trivial) ((DD _).symm▸(DT.symm▸h6)) (λx hx=>(DO.mp hx).elim λch q=>⟨_,rfl,λσ' hr P1 P0 hp1 hp0=>?_⟩) λσ' hr=>bo λn σ1 r1 l1=>bo λm σ2 r2 l2=>?_)⟩
 · rw [← q.2] at hp1 hp0 ⊢;refine ⟨_,rfl,.ni (.str rfl ?_)⟩;cases e:HX nC ⟨#[ch]⟩ with
   | true=>rw [show HX (Dy "0123456789") _=true from e];exact hp0 (congrArg Ga e) _ hr
   | false=>rw [show HX (Dy "0123456789") _=false from e];exact ⟨_,rfl,hp1 (congrArg Ga e) _ hr⟩
 · rw [show Jb (λx:PV=>x) (LA zr _)=cM (dj op) from II _] at l1;refine .ne (.li ((r2.loc _ rfl (by rw [l1];nofun)).trans l1) l2 W.w7 rfl W.w8 ?_);have hR:Ro σ σ2:=hr.trans (r1.trans r2);cases q:cM (dj op) with
   | nil=>
    have w9:=W.w9;have w10:=W.w10;rw [q] at w9 w10;rw [aJ];refine iB rfl ⟨_,rfl,?_⟩;refine (FJ.mp (w10 rfl)).elim λi e=>?_;rw [e] at w9 hQ;exact .intS i w9.symm W.w3 (hQ _ hR)
   | cons x l=>
    have w9:=W.w9;rw [q] at w9;rw [aC λh=>Gp _ _ (PV.tup.inj h)];rw [w9] at hQ;exact iT rfl (hQ _ hR)
theorem hZ{b:Bool}{A B:Prop}(h:b=false)(k:B):pX .Or b A B:=by rw [h];exact k
theorem qO{b:Bool}{A B:Prop}(h:b=true)(k:A):pX .Or b A B:=by rw [h];exact k
theorem zt{b:Bool}{A B:Prop}(h:b=false)(k:A):pX .And b A B:=by rw [h];exact k
theorem BK{b:Bool}{A B:Prop}(h:b=true)(k:B):pX .And b A B:=by rw [h];exact k
theorem yg:Ff wy=true:=by decide +kernel
theorem Va.plain(v:Va):Mine.plain v.pv=true:=by
 cases v with
 | bad=>exact yg
 | _=>rfl
theorem Va.depth(v:Va):aK v.pv=0:=by
 cases v with
 | _=>rfl
theorem Va.plains(l:List Va):Mine.plains (l.map Va.pv)=true:=by
 induction l with
 | nil=>rfl
 | cons x r ih=>exact DP.mpr ⟨x.plain,ih⟩
theorem Va.depths(l:List Va):aP (l.map Va.pv)=0:=by
 induction l with
 | nil=>rfl
 | cons x r ih=>exact MO.mp (JN.mpr ⟨Ee x.depth,Ee ih⟩)
theorem fS{x:PV}{l:List PV}:fB x l=true↔x∈l:=by
 induction l with
 | nil=>exact ⟨nofun,nofun⟩
 | cons y r ih=>
  rw [fB,Hw,ih,bg,D5];exact or_congr ⟨JK,JK⟩ Iff.rfl
theorem uN{a b:Va}{σ:aa}{K:Bool->Prop}(h:K (decide (a=b))):bc σ K .Eq a.pv b.pv:=by
 refine .eq (.pl a.plain b.plain (a.depth▸Eo _) ?_);by_cases e:a=b
 · rw [decide_eq_true e] at h;rw [e,aJ];exact h
 · rw [decide_eq_false e] at h;rw [aC λh=>e (Va.pv_inj h)];exact h
theorem yh{a b:Va}{σ:aa}{K:Bool->Prop}(h:K !(decide (a=b))):bc σ K .NotEq a.pv b.pv:=by
 cases uN (K:=λb=>K !b) h with | eq h=>exact .ne h
theorem jb{a:Va}{σ:aa}{K:Bool->Prop}(h:K (decide (a=.non))):bc σ K .Is a.pv .none:=by
 refine eO ?_;by_cases e:a=.non
 · rw [decide_eq_true e] at h;rw [e];exact (aJ .none).symm▸h
 · rw [decide_eq_false e] at h;rw [show aG a.pv .none=false from aC λh=>e (Va.pv_inj (b:=.non) h)];exact h
theorem nD{a:Va}{l:List Va}{p:al}{σ:aa}{K:Bool->Prop}(hp:σ p=some (.list (l.map Va.pv)))(h:K (decide (a∈l))):bc σ K .In a.pv (.ref p):=by
 refine .in_ (.li hp a.plain (Va.plains l) (Va.depths l▸Eo _) ?_);have m:a.pv∈l.map Va.pv↔a∈l:=fF λ_ _=>Va.pv_inj;by_cases e:a∈l
 · rw [decide_eq_true e] at h;rw [fS.mpr (m.mpr e)];exact h
 · rw [decide_eq_false e] at h;rw [FQ.mpr λh=>e (m.mp (fS.mp h))];exact h
theorem Ak{v:PV}{l:List PV}{σ:aa}{K:Bool->Prop}(h1:Mine.plain v=true)(h2:Mine.plains l=true)(h3:aP l<=8)(h:K !(fB v l)):bc σ K .NotIn v (.tup l):=.ni (.tup h1 h2 h3 h)
theorem jc(a:Va):dt a a=a:=by
 cases a with
 | num i=>exact if_pos rfl
 | _=>rfl
theorem jR(a:Va):dt a .non=a:=by
 cases a with
 | _=>rfl
theorem jS{a b:Va}(h:a≠.non)(h':b≠.non)(hn:a≠b):dt a b=.bad:=by
 cases a with
 | non=>exact absurd rfl h
 | num i=>cases b with
  | non=>exact absurd rfl h'
  | num j=>exact if_neg hn
  | bad=>rfl
 | bad=>cases b with
  | non=>exact absurd rfl h'
  | num j=>rfl
  | bad=>exact absurd rfl hn
theorem kZ{c:Cx}(G:Gd c)(P:aD c){σ:aa}{v:PV}{a b:Va}{Q:PV->aa->Prop}(hQ:Q (dt a b).pv σ)(k:Nat):aj c (k+1) .c_joined [v,a.pv,b.pv] σ Q:=by
 refine aw G P .c_joined rfl ⟨_,rfl,jb ?_⟩;by_cases e:a=.non
 · rw [e] at hQ;exact qO (decide_eq_true e) (iT (decide_eq_true e) ⟨_,rfl,hQ⟩)
 refine hZ (decide_eq_false e) ⟨_,rfl,_,rfl,uN ?_⟩;by_cases e2:a=b
 · rw [← e2,jc] at hQ;exact qO (decide_eq_true e2) (iT (decide_eq_true e2) ⟨_,rfl,e2▸hQ⟩)
 refine hZ (decide_eq_false e2) (iB rfl ⟨_,rfl,jb ?_⟩);by_cases e3:b=.non
 · rw [e3,jR] at hQ;exact iT (decide_eq_true e3) ⟨_,rfl,hQ⟩
 · rw [jS e e3 e2] at hQ;exact iB (decide_eq_false e3) hQ
noncomputable def KC(σ:aa)(n:Nat):Prop:=σ .consts=some (.inst .consts [("n",.int (n:Nat))])/\2<=n/\n<=7
theorem eP.mem{op:Str}{m:Nat}(h:eP op m):op∈[oX,oY,gO,dG,fZ] ++ nums.map (·.1):=
 h.elim (λh=>h.2.elim (λe=>e▸.head _) λh=>h.elim (λe=>e▸.tail _ (.head _)) λh=>D0 _ h) λh=>h.elim (λh=>h.2▸.tail _ (.tail _ (.head _)))
  λh=>h.2.elim (λe=>e▸.tail _ (.tail _ (.tail _ (.head _)))) λe=>e▸.tail _ (.tail _ (.tail _ (.tail _ (.head _))))
theorem gP{op:Str}{m:Nat}(h:eP op m):Ff op=true/\op.length < 640:=
 have a:([oX,oY,gO,dG,fZ] ++ nums.map (·.1)).all (λo=>Ff o && decide (o.length < 640))=true:=by decide +kernel
 bA (Et.mp a op h.mem) λa b=>⟨a,of_decide_eq_true b⟩
theorem bA2{op:Str}{i:Int}(h:Ff op=true):Mine.plain (.tup [.str op,.int i])=true:=DP.mpr ⟨h,rfl⟩
theorem mC:gO≠dG:=by decide +kernel
theorem CS:dG≠fZ:=by decide +kernel
theorem mD:gO≠fZ:=by decide +kernel
@[elab_as_elim] theorem yi{α:Type}{m:List α->Prop}{l:List α}(h:l.length<=2)(h0:m [])(h1:∀a,m [a])(h2:∀a b,m [a,b]):m l:=by
 cases l with
 | nil=>exact h0
 | cons a l=>cases l with
  | nil=>exact h1 a
  | cons b l=>cases l with
   | nil=>exact h2 a b
   | cons c l=>exact absurd h (Nat.not_le_of_lt (GV 3 l.length))
theorem fT{n:Nat}{op:Str}{vs:List Va}(h2:vs.length<=2)(h:Va.non∈vs):bR n op vs=.non:=by
 revert h;refine yi h2 nofun (λa h=>?_) λa b h=>?_
 · rw [← DS.mp h];rfl
 · rcases D5.mp h with e | h
   · rw [← e];rfl
   · rw [← DS.mp h];cases a with
     | _=>rfl
theorem s8{vs:List Va}(h0:¬vs=[])(h2:vs.length<=2)(hn:¬Va.non∈vs)(hb:¬Va.bad∈vs):(∃i,vs=[.num i])\/∃i j,vs=[.num i,.num j]:=by
 have one:∀a,a∈vs->∃i,a=.num i:=λa=>by
  cases a with
  | non=>exact λha=>absurd ha hn
  | bad=>exact λha=>absurd ha hb
  | num i=>exact λ_=>⟨i,rfl⟩
 clear hn hb;revert h0 one;exact yi h2 (λh=>absurd rfl h) (λa _ one=>.inl ((one a (.head _)).imp λi e=>by rw [e])) λa b _ one=>.inr ((one a (.head _)).imp λi e=>(one b (.tail _ (.head _))).imp λj e'=>by rw [e,e'])
theorem oG{n:Nat}{op:Str}{vs:List Va}(h2:vs.length<=2)(h:Va.bad∈vs)(hn:¬Va.non∈vs):bR n op vs=.bad:=by
 revert h hn;refine yi h2 (λh=>nomatch h) (λa h _=>?_) λa b h hn=>?_
 · rw [← DS.mp h];rfl
 · rcases D5.mp h with e | h
   · rw [← e];cases b with
     | non=>exact absurd (.tail _ (.head _)) hn
     | _=>rfl
   · rw [← DS.mp h];cases a with
     | non=>exact absurd (.head _) hn
     | _=>rfl
theorem qP{c:Cx}(G:Gd c)(P:aD c){σ:aa}{n:Nat}(K:KC σ n){op:Str}{vs:List Va}(ho:eP op vs.length)(hv:∀v∈vs,v.ok n){q:al}(hq:σ q=some (.list (vs.map Va.pv))){Q:PV->aa->Prop}
 (hQ:∀σ',Ro σ σ'->Q (bR n op vs).pv σ') (k:Nat):aj c (k+2) .c_of_node [.ref .consts,.str op,.ref q] σ Q:=by
 have ha:∀{σ':aa},Ro σ σ'->bS σ' (.ref .consts) "n" = some (.int (n:Nat)):=λhr=>a9 ((hr.at (p:=.consts) rfl).trans K.1) rfl;have h2:=ho.ok.2;have h2b:vs.length < 10000:=DC h2 (by decide);have hn0:((n:Nat):Int)≠0:=λe=>nomatch (Fk e▸K.2.1:2<=0);have hso:=(gP ho).1;refine aw G P .c_of_node rfl ⟨_,rfl,cL hq (DD _) h2b (eW (b:=0) ?_)⟩;by_cases e0:vs=[]
 · rw [e0] at ho hQ;refine iT (by rw [e0];rfl) ⟨_,rfl,sj G P ho (λσ' hr=>?_) k⟩;have hQ:Q (match numOf op with | some i=>Va.num (i.fmod n) | none=>.non).pv σ':=hQ σ' hr;revert hQ;cases numOf op with
   | none=>exact λhQ=>⟨_,rfl,eO (iT (aJ _) hQ)⟩
   | some i=>exact λhQ=>⟨_,rfl,eO (iB (aC nofun) ⟨_,rfl,_,rfl,_,ha hr,.mod hn0 hQ⟩)⟩
 refine iB (beq_eq_false_iff_ne.mpr λh=>e0 (Fe h)) ⟨_,rfl,nD (a:=.non) hq ?_⟩;have hQ0:=hQ σ St.refl;clear hQ;by_cases en:Va.non∈vs
 · rw [fT h2 en] at hQ0;exact qO (decide_eq_true en) (iT (decide_eq_true en) hQ0)
 refine hZ (decide_eq_false en) ⟨_,rfl,_,rfl,cL hq (DD _) h2b (Ak (bA2 hso) (by decide +kernel) (by decide +kernel) ?_)⟩;have hmem:fB (.tup [.str op,.int (vs.length:Nat)]) [.tup [.str dG,.int 2],.tup [.str fZ,.int 2],.tup [.str gO,.int 1]]=true:=
  fS.mpr (ho.elim (λh=>absurd (Fe h.1) e0) λh=>h.elim (λh=>by rw [h.1,h.2];exact .tail _ (.tail _ (.head _))) λh=>h.2.elim (λe=>by rw [h.1,e];exact .head _) λe=>by rw [h.1,e];exact .tail _ (.head _))
 refine hZ (congrArg Ga hmem) (iB rfl ⟨_,rfl,nD (a:=.bad) hq ?_⟩);by_cases eb:Va.bad∈vs
 · rw [oG h2 eb en] at hQ0;exact iT (decide_eq_true eb) hQ0
 refine iB (decide_eq_false eb) ⟨_,rfl,iS hso (by decide +kernel) ?_⟩;clear hmem;refine (s8 e0 h2 en eb).elim (λh=>h.elim λi e=>?_) λh=>h.elim λi h=>h.elim λj e=>?_
 · rw [e] at ho hq hQ0;have e1:op=gO:=ho.elim (λh=>nomatch h.1) λh=>h.elim IY λh=>nomatch h.1;exact iT (by rw [e1];exact aJ _) ⟨_,rfl,bH (a:=0) hq (by decide) rfl ⟨_,rfl,_,ha St.refl,.mod hn0 hQ0⟩⟩
 · rw [e] at ho hq hQ0 hv;have e1:op=dG\/op=fZ:=ho.elim (λh=>nomatch h.1) λh=>h.elim (λh=>nomatch h.1) IY;refine iB (aC λh=>e1.elim (λe=>mC ((PV.str.inj h).symm.trans e)) λe=>mD ((PV.str.inj h).symm.trans e)) ⟨_,rfl,iS hso (by decide +kernel) ?_⟩;have hQ0:Q (.int ((if op=dG then i+j else i*j).fmod n)) σ:=hQ0;by_cases eo:op=dG
   · rw [if_pos eo] at hQ0;exact iT (by rw [eo];exact aJ _) ⟨_,rfl,bH (a:=0) hq (by decide) rfl ⟨_,rfl,bH (a:=1) hq (by decide) rfl (.addI ⟨_,rfl,_,ha St.refl,.mod hn0 hQ0⟩)⟩⟩
   · have lt:∀{i:Int},0<=i/\i < (n:Int)->i.natAbs < 2 ^ 62:=λh=>by have:=K.2.2;clear hQ0 hv;lia
     rw [if_neg eo] at hQ0;exact iB (aC λh=>eo (PV.str.inj h)) ⟨_,rfl,bH (a:=0) hq (by decide) rfl ⟨_,rfl,bH (a:=1) hq (by decide) rfl (.mul (lt (hv (.num i) (.head _) i rfl)) (lt (hv (.num j) (.tail _ (.head _)) j rfl)) ⟨_,rfl,_,ha St.refl,.mod hn0 hQ0⟩)⟩⟩
inductive aX:Va->Va->Prop
 | non {b:Va}:aX .non b
 | bad {a:Va}:aX a .bad
 | rfl' {a:Va}:aX a a
theorem aX.tr{a b c:Va}(h:aX a b)(h':aX b c):aX a c:=by
 cases h with
 | non=>exact .non
 | bad=>cases h' with
  | _=>exact .bad
 | rfl'=>exact h'
theorem aX.anti{a b:Va}(h:aX a b)(h':aX b a):a=b:=by
 cases h with
 | non=>cases h' with
  | _=>rfl
 | bad=>cases h' with
  | _=>rfl
 | rfl'=>rfl
@[elab_as_elim] theorem pK{m:Va->Prop}(a b:Va)(h1:a=.non->m b)(h2:b=.non->m a)(h3:a=b->m a)(h4:a≠.non->b≠.non->a≠b->m .bad):m (dt a b):=by
 by_cases e1:a=.non
 · rw [e1];exact h1 e1
 by_cases e2:b=.non
 · rw [e2,jR];exact h2 e2
 by_cases e3:a=b
 · rw [← e3,jc];exact h3 e3
 · rw [jS e1 e2 e3];exact h4 e1 e2 e3
theorem aX.joinL(a b:Va):aX a (dt a b):=pK a b (λe=>e▸.non) (λ_=>.rfl') (λ_=>.rfl') λ_ _ _=>.bad
theorem aX.joinR(a b:Va):aX b (dt a b):=pK a b (λ_=>.rfl') (λe=>e▸.non) (λe=>e▸.rfl') λ_ _ _=>.bad
theorem aX.lub{a b c:Va}(h:aX a c)(h':aX b c):aX (dt a b) c:=pK a b (λ_=>h') (λ_=>h) (λ_=>h) λh1 h2 h3=>by
 cases h with
 | non=>exact absurd rfl h1
 | bad=>exact .rfl'
 | rfl'=>cases h' with
  | non=>exact absurd rfl h2
  | bad=>exact .rfl'
  | rfl'=>exact absurd rfl h3
theorem Va.ok_non{n:Nat}:Va.ok n .non:=λ_ h=>nomatch h
theorem Va.ok_bad{n:Nat}:Va.ok n .bad:=λ_ h=>nomatch h
theorem Va.ok_join{n:Nat}{a b:Va}(h:a.ok n)(h':b.ok n):(dt a b).ok n:=pK (m:=Va.ok n) a b (λ_=>h') (λ_=>h) (λ_=>h) λ_ _ _=>ok_bad
theorem Va.ok_mod{i:Int}{n:Nat}(h2:2<=n):Va.ok n (.num (i.fmod n)):=λj e=>by
 have h0:(0:Int) < (n:Nat):=EG.mpr (DI (by decide) h2);rw [← Va.num.inj e];exact ⟨Ig i h0,KL i h0⟩
theorem Va.ok_node{n:Nat}(h2:2<=n)(_:n<=7)(op:Str)(vs:List Va):(bR n op vs).ok n:=by
 cases vs with
 | nil=>
  show Va.ok n (match numOf op with | some i=>.num (i.fmod n) | none=>.non);cases numOf op with
  | none=>exact ok_non
  | some i=>exact ok_mod h2
 | cons a l=>cases l with
  | nil=>cases a with
   | non=>exact ok_non
   | bad=>exact ok_bad
   | num i=>exact ok_mod h2
  | cons b l=>cases l with
   | nil=>cases a with
    | non=>exact ok_non
    | bad=>cases b with
     | non=>exact ok_non
     | _=>exact ok_bad
    | num i=>cases b with
     | non=>exact ok_non
     | bad=>exact ok_bad
     | num j=>exact ok_mod h2
   | cons c l=>exact ok_non
inductive jT:List Va->List Va->Prop
 | nil:jT [] []
 | cons {a b r r'}:aX a b->jT r r'->jT (a::r) (b::r')
theorem jT.map{f g:Nat->Va}{l:List Nat}(h:∀x∈l,aX (f x) (g x)):jT (l.map f) (l.map g):=by
 induction l with
 | nil=>exact .nil
 | cons x r ih=>exact .cons (h x (.head _)) (ih λy hy=>h y (.tail _ hy))
theorem aX.node{n:Nat}{op:Str}{vs ws:List Va}(h:jT vs ws):aX (bR n op vs) (bR n op ws):=by
 cases h with
 | nil=>exact .rfl'
 | @cons a b _ _ h1 h=>cases h with
  | nil=>cases h1 with
   | non=>exact .non
   | bad=>exact .bad
   | rfl'=>exact .rfl'
  | @cons a' b' _ _ h2 h=>cases h with
   | cons _ _=>exact .non
   | nil=>cases h1 with
    | non=>exact .non
    | bad=>cases h2 with
     | non=>rw [fT (DQ _) (.tail _ (.head _))];exact .non
     | bad=>exact .bad
     | rfl'=>cases a' with
      | non=>rw [fT (DQ _) (.tail _ (.head _))];exact .non
      | _=>exact .bad
    | rfl'=>cases h2 with
     | non=>rw [fT (DQ _) (.tail _ (.head _))];exact .non
     | bad=>cases a with
      | non=>exact .non
      | _=>exact .bad
     | rfl'=>exact .rfl'
structure PF(nd:av)(eqs:List (Nat×Nat))(n:Nat)(w:Nat->Va):Prop where
 like:∀{a b},CC nd eqs a b->w a=w b
 node:∀{i:Nat} {op:Str} {ks:List Nat},nd[i]? = some (op,ks)->aX (bR n op (ks.map w)) (w i)
theorem PF.sub{nd e:av}{eqs eqs':List (Nat×Nat)}{n:Nat}{w:Nat->Va}(h:PF (nd ++ e) eqs' n w)(he:∀x∈eqs,x∈eqs'):PF nd eqs n w:=
 ⟨λhc=>h.like (hc.mono he),λhi=>h.node (iU hi)⟩
noncomputable def bj(nd:av)(eqs:List (Nat×Nat))(n:Nat)(f:Nat->Va):Prop:=∀w,PF nd eqs n w->∀c,aX (f c) (w c)
theorem bj.mono{nd e:av}{eqs eqs':List (Nat×Nat)}{n:Nat}{f:Nat->Va}(h:bj nd eqs n f)(he:∀x∈eqs,x∈eqs'):bj (nd ++ e) eqs' n f:=λw hw=>h w (hw.sub he)
theorem yj{nd:av}{eqs:List (Nat×Nat)}{n:Nat}{f g:Nat->Va}(hf:bj nd eqs n f)(hf':PF nd eqs n f)(hg:bj nd eqs n g)(hg':PF nd eqs n g)(c:Nat):f c=g c:=
 aX.anti (hf g hg' c) (hg f hf' c)
noncomputable def updV(f:Nat->Va)(a:Nat)(v:Va):Nat->Va:=λc=>if c=a then v else f c
theorem fU(f:Nat->Va)(a:Nat)(v:Va):updV f a v a=v:=if_pos rfl
theorem eQ{f:Nat->Va}{a:Nat}{v:Va}{c:Nat}(h:c≠a):updV f a v c=f c:=if_neg h
noncomputable def ht:Va->Nat
 | .non=>2 | .num _=>1 | .bad=>0
noncomputable def hts(N:Nat)(f:Nat->Va):Nat:=((DV N).map λc=>ht (f c)).sum
theorem lH(N:Nat)(f:Nat->Va):hts (N+1) f=hts N f+ht (f N):=by
 rw [hts,Gu,D4,IM];rfl
theorem CT(v:Va):ht v<=2:=by
 cases v with
 | non=>exact DQ 2
 | num i=>exact E6 1
 | bad=>exact Eo 2
theorem BL(N:Nat)(f:Nat->Va):hts N f<=2*N:=by
 induction N with
 | zero=>exact DQ _
 | succ N ih=>rw [lH];exact Gb ih (CT _)
theorem zu{a b:Va}(h:aX a b)(hne:a≠b):ht b < ht a:=by
 cases h with
 | non=>cases b with
  | non=>exact absurd rfl hne
  | num i=>exact D6 1
  | bad=>exact LN
 | bad=>cases a with
  | non=>exact LN
  | num i=>exact MU
  | bad=>exact absurd rfl hne
 | rfl'=>exact absurd rfl hne
theorem s9{N:Nat}{f:Nat->Va}{c:Nat}{v:Va}(hc:c < N)(h:ht v < ht (f c)):hts N (updV f c v) < hts N f:=by
 induction N with
 | zero=>exact absurd hc (Fy _)
 | succ N ih=>
  rw [lH,lH];rcases Fh.mp hc with g | g
  · rw [eQ (EY g)];exact IK (ih g) _
  · have e:hts N (updV f c v)=hts N f:=congrArg List.sum (El λx hx=>congrArg ht (eQ (D1 (g▸D3.mp hx))));rw [e,← g,fU];exact GE h _
noncomputable def vD(ks:List Nat)(f:Nat->Va):List (PV×PV):=ks.map λ(c:Nat)=>(PV.int (c:Int),(f c).pv)
theorem kh(ks:List Nat)(f:Nat->Va)(c:Nat):DK (vD ks f) (.int (c:Nat)):=dm ks (λx=>x) (λx=>(f x).pv) c
theorem wz{ks:List Nat}{f:Nat->Va}{c:Nat}(hn:ks.Nodup)(hout:∀c,c∉ks->f c=.non):(aB (vD ks f) (.int (c:Nat))).getD .none=(f c).pv:=by
 by_cases h:c∈ks
 · rw [vD,gI (g:=λc=>(f c).pv) hn h];rfl
 · rw [vD,dD (i8 (g:=λc=>(f c).pv) h),hout c h];rfl
theorem wA{ks:List Nat}{f:Nat->Va}{c:Nat}(hn:ks.Nodup)(h:c∈ks):aB (vD ks f) (.int (c:Nat))=some (f c).pv:=gI (g:=λc=>(f c).pv) hn h
theorem BM{ks:List Nat}{f:Nat->Va}{c:Nat}{v:Va}(hn:ks.Nodup):∃ks',bB (vD ks f) (.int (c:Nat)) v.pv=vD ks' (updV f c v)/\ks'.Nodup/\∀x,x∈ks'↔x∈ks\/x=c:=by
 by_cases h:c∈ks
 · refine ⟨ks,(qG (f:=λx:Nat=>x) (g:=λc=>(f c).pv) ((II ks).symm▸hn) (DO.mpr ⟨c,h,rfl⟩)).trans (El λx _=>?_),hn,λx=>⟨.inl,λh'=>h'.elim id λe=>e▸h⟩⟩;by_cases e:x=c
   · rw [if_pos e,e,fU]
   · rw [if_neg e,eQ e]
 · refine ⟨ks ++ [c],(i7 (i8 (g:=λc=>(f c).pv) h)).trans ?_,dh hn h,λx=>⟨λh=>(Eb.mp h).imp_right DS.mp,λh=>Eb.mpr (h.imp_right DS.mpr)⟩⟩;rw [vD,D4,HI,fU];exact congrArg (· ++ [(PV.int (c:Nat),v.pv)]) (El λx hx=>by rw [eQ (a:=c) (c:=x) λe=>h (e▸hx)])
theorem ki{σ:aa}{p:al}{ks:List Nat}{f:Nat->Va}{c:Nat}{Q:PV->aa->Prop}(h:σ p=some (.dict (vD ks f)))(hn:ks.Nodup)(hout:∀c,c∉ks->f c=.non)(hQ:Q (f c).pv σ):cb σ Q .dGet (.ref p) [.int (c:Nat)]:=
 .get h (kh _ _ _) ((wz hn hout).symm▸hQ)
theorem yk{σ:aa}{p:al}{ks:List Nat}{g:Nat->PV}{Q:PV->aa->Prop}(h:σ p=some (.dict (ks.map λ(c:Nat)=>(PV.int (c:Int),g c))))(hl:ks.length < 64)
 (hQ:∀r:List Nat,r.Perm ks->r.Pairwise (·<=·)->aQ σ (.list (ai r)) Q):bC σ Q .sorted [.ref p]:=
 .sortD _ h (by rw [Ea];exact bk ks) ((DD _).symm▸hl) λr hp hs=>(fE hp hs).elim λr' q=>by rw [q.1,Ea];exact hQ r' q.2.1 q.2.2
theorem St.keepL{I:al->Prop}{σ σ':aa}(h:St I σ σ'){n:Nat}{o:PO}(hp:σ (.loc n)=some o):σ' (.loc n)=some o:=
 (h.loc _ rfl (hp▸Eh o)).trans hp
theorem Ro.kept{σ σ':aa}(h:Ro σ σ'){p:al}{o:PO}(hp:σ p=some o):σ' p=some o:=by
 cases e:p.isLoc with
 | true=>exact (h.loc p e (hp▸Eh o)).trans hp
 | false=>exact (h.at e).trans hp
noncomputable def CU(i:Nat):PO:=.inst .keeper [("heap",.ref .heap),("analysis",.ref .consts),("values",.ref (.kVals i)),("told",.ref .kTold)]
structure bv(σ:aa)(n i:Nat)(ks:List Nat)(f:Nat->Va)(told:List (PV×PV)):Prop where
 kp:σ .keeper=some (CU i)
 C:KC σ n
 vals:σ (.kVals i)=some (.dict (vD ks f))
 nodup:ks.Nodup
 out:∀c,c∉ks->f c=.non
 told:σ .kTold=some (.dict told)
 free:∃m,i<=m/\∀j,m < j->σ (.kVals j)=none
 ok:∀c,(f c).ok n
noncomputable def cf(p:al):Prop:=p=.keeper\/p=.consts\/p=.kTold\/∃j,p=.kVals j
theorem bv.of_eq{σ σ':aa}{n i:Nat}{ks:List Nat}{f:Nat->Va}{told:List (PV×PV)}(K:bv σ n i ks f told)(h:∀p,cf p->σ' p=σ p):bv σ' n i ks f told where
 kp:=(h _ (.inl rfl)).trans K.kp
 C:=⟨(h _ (.inr (.inl rfl))).trans K.C.1,K.C.2⟩
 vals:=(h _ (.inr (.inr (.inr ⟨_,rfl⟩)))).trans K.vals
 nodup:=K.nodup
 out:=K.out
 told:=(h _ (.inr (.inr (.inl rfl)))).trans K.told
 free:=K.free.imp λm q=>⟨q.1,λj hj=>(h _ (.inr (.inr (.inr ⟨_,rfl⟩)))).trans (q.2 j hj)⟩
 ok:=K.ok
theorem cf.loc{p:al}(h:cf p):p.isLoc=false:=h.elim (λe=>e▸rfl) λh=>h.elim (λe=>e▸rfl) λh=>h.elim (λe=>e▸rfl) λh=>h.elim λ_ e=>e▸rfl
theorem cf.notH{p:al}(h:cf p):¬bp p:=λa=>h.elim (λe=>(e▸a:bp .keeper).elim id λh=>h.elim id id) λh=>h.elim (λe=>(e▸a:bp .consts).elim id λh=>h.elim id id) λh=>h.elim (λe=>(e▸a:bp .kTold).elim id λh=>h.elim id id) λh=>h.elim λj e=>(e▸a:bp (.kVals j)).elim id λh=>h.elim id id
theorem cf.no{p:al}(h:cf p)(h1:p≠.keeper)(h2:p≠.consts)(h3:p≠.kTold)(h4:∀j,p≠.kVals j):False:=h.elim h1 λh=>h.elim h2 λh=>h.elim h3 λh=>h.elim h4
theorem bv.ro{σ σ':aa}{n i:Nat}{ks:List Nat}{f:Nat->Va}{told:List (PV×PV)}(K:bv σ n i ks f told)(h:Ro σ σ'):bv σ' n i ks f told:=K.of_eq λp hp=>h.at hp.loc
theorem bv.heap{σ σ':aa}{n i:Nat}{ks:List Nat}{f:Nat->Va}{told:List (PV×PV)}(K:bv σ n i ks f told)(h:St bp σ σ'):bv σ' n i ks f told:=K.of_eq λp hp=>h.oth p hp.loc hp.notH
theorem ce.of_eq{σ σ':aa}{nd:av}{N:Nat}{cls:Nat->Nat}{kn:List ((Str×List Nat)×Nat)}{us:Nat->List Nat}{wt:List Nat}{E S:Nat}(H:ce σ nd N cls kn us wt E S)(h:∀p,hO p->σ' p=σ p):ce σ' nd N cls kn us wt E S where
 R:=⟨(h _ (.inr (.inl rfl))).trans H.R.h,H.R.B.of_eq λp hp=>h p (hp.elim (λe=>.inr (.inr (.inl e))) λe=>.inl (.inr (.inl e))),H.R.U.of_eq λp hp=>h p (hp.elim (λe=>.inr (.inr (.inr e))) λe=>.inl (.inl e))⟩
 edges:=H.edges.imp λ_ q=>⟨(h .hEdges (.inl (.inr (.inr trivial)))).trans q.1,q.2⟩
 forest:=H.forest.imp λ_ q=>⟨(h .hForest (.inl (.inr (.inr trivial)))).trans q.1,q.2⟩
 known:=(h .hKnown (.inl (.inr (.inr trivial)))).trans H.known
 knN:=H.knN
 above:=H.above.of2 (h .hAbove (.inl (.inr (.inr trivial)))) λi=>h (.hUse i) (.inl (.inr (.inr trivial)))
 wait:=(h .hWaiting (.inl (.inr (.inr trivial)))).trans H.wait
 wtB:=H.wtB
 E4:=H.E4
 S2:=H.S2
section
variable {σ σ':aa} {nd:av} {eqs:List (Nat×Nat)} {cls:Nat->Nat} {E S:Nat}
theorem cP.of_eq(H:cP σ nd eqs cls E S)(h:∀p,hO p->σ' p=σ p):cP σ' nd eqs cls E S:=H.casesOn λw kn us H C=>⟨w,kn,us,H.of_eq h,C⟩
theorem bG.of_eq(H:bG σ nd eqs cls E S)(h:∀p,hO p->σ' p=σ p):bG σ' nd eqs cls E S:=H.casesOn λw kn us wt H C=>⟨w,kn,us,wt,H.of_eq h,C⟩
end
theorem gK.isLoc(p:al):gK p->p.isLoc=false:=by
 cases p with
 | loc _=>exact G9
 | _=>exact λ_=>rfl
theorem hO.loc{p:al}(h:hO p):p.isLoc=false:=
 h.elim (λh=>h.elim (cB.isLoc p) λh=>h.elim (bW.isLoc p) (gK.isLoc p)) λh=>h.elim (λe=>e▸rfl) λh=>h.elim (λe=>e▸rfl) λe=>e▸rfl
theorem hO.notK{p:al}(h:hO p)(k:cf p):False:=
 h.elim k.notH λh=>h.elim (λe=>(e▸k:cf .heap).no nofun nofun nofun λ_=>nofun) λh=>h.elim (λe=>(e▸k:cf .bank).no nofun nofun nofun λ_=>nofun) λe=>(e▸k:cf .unions).no nofun nofun nofun λ_=>nofun
theorem cP.keeper{σ σ':aa}{nd:av}{eqs:List (Nat×Nat)}{cls:Nat->Nat}{E S:Nat}(H:cP σ nd eqs cls E S)(h:St cf σ σ'):cP σ' nd eqs cls E S:=H.of_eq λp hp=>h.oth p hp.loc hp.notK
theorem bG.keeper{σ σ':aa}{nd:av}{eqs:List (Nat×Nat)}{cls:Nat->Nat}{E S:Nat}(H:bG σ nd eqs cls E S)(h:St cf σ σ'):bG σ' nd eqs cls E S:=H.of_eq λp hp=>h.oth p hp.loc hp.notK
section
variable {σ:aa} {n i:Nat} {ks:List Nat} {f:Nat->Va} {told:List (PV×PV)} (K:bv σ n i ks f told)
include K
theorem bv.heapA:bS σ (.ref .keeper) "heap" = some (.ref .heap):=a9 K.kp rfl
theorem bv.analysis:bS σ (.ref .keeper) "analysis" = some (.ref .consts):=a9 K.kp rfl
theorem bv.values:bS σ (.ref .keeper) "values" = some (.ref (.kVals i)):=a9 K.kp rfl
theorem bv.toldA:bS σ (.ref .keeper) "told" = some (.ref .kTold):=a9 K.kp rfl
theorem bv.mget:ff σ (.ref (.kVals i)) "get" = some .dGet:=iR K.vals rfl
theorem bv.get{c:Nat}{Q:PV->aa->Prop}(hQ:Q (f c).pv σ):cb σ Q .dGet (.ref (.kVals i)) [.int (c:Nat)]:=ki K.vals K.nodup K.out hQ
end
theorem mE{c:Cx}(G:Gd c)(P:aD c){σ:aa}{nd:av}{cls:Nat->Nat}{n i:Nat}{ks:List Nat}{f:Nat->Va}{told:List (PV×PV)}(H:bM σ nd nd.length cls)(K:bv σ n i ks f told){a:Nat}(ha:a < nd.length){Q:PV->aa->Prop}(hQ:Q (f (cls a)).pv σ)(k:Nat) :
 aj c (k+3) .k_value [.ref .keeper,.int (a:Nat)] σ Q:=
 aw G P .k_value rfl ⟨_,rfl,_,K.values,_,K.mget,_,rfl,_,K.heapA,_,aL H.h rfl rfl,_,rfl,bF G P H ha (K.get hQ) k⟩
noncomputable def CV(f:Nat->Va)(x:PV):Bool:=match x with | .int j=>decide (f j.toNat=.bad) | _=>false
theorem qQ{c:Cx}(G:Gd c)(P:aD c){σ:aa}{nd:av}{cls:Nat->Nat}{n i:Nat}{ks:List Nat}{f:Nat->Va}{told:List (PV×PV)}(H:bM σ nd nd.length cls)(K:bv σ n i ks f told){Q:PV->aa->Prop}
 (hQ:∀σ' m,Ro σ σ'->σ' (.loc m)=some (.list (ai (((DV nd.length).filter λa=>cls a == a).filter λa=>decide (f a=.bad))))->Q (.ref (.loc m)) σ') (k:Nat) :
 aj c (k+3) .k_clashes [.ref .keeper] σ Q:=by
 refine aw G P .k_clashes rfl ⟨_,rfl,_,K.heapA,_,aL H.h rfl rfl,gJ G P H (λσ1 p hr hp=>?_) k⟩;have hl:(ai ((DV nd.length).filter λa=>cls a == a)).length < ay:=by
  rw [ah];exact au (DC (DM (Fm _ _) (Ee Ez)) (DH H.B.small (by decide)))
 refine cz hp hl (fM (λx=>x) (CV f) (λσ2 hr2=>hr2.kept hp) hl (λx hx=>(DO.mp hx).elim λa q=>⟨_,rfl,λσ2 hr2 P1 P0 hp1 hp0=>?_⟩) λσ2 hr2=>bo λm σ3 r3 l3=>hQ _ _ (hr.trans (hr2.trans r3)) (l3.trans ?_))
 · rw [← q.2] at hp1 hp0 ⊢;have K2:=K.ro (hr.trans hr2);refine ⟨_,rfl,_,K2.values,_,K2.mget,_,rfl,K2.get (uN (b:=.bad) ?_)⟩;by_cases e:f a=.bad
   · exact BK (decide_eq_true e) (iT rfl ⟨_,rfl,hp1 (decide_eq_true e) _ hr2⟩)
   · exact zt (decide_eq_false e) (iB (decide_eq_false e) (hp0 (decide_eq_false e) _ hr2))
 · exact congrArg (some∘PO.list) ((II _).trans GU)
structure Dp(nd:av)(cls:Nat->Nat)(n:Nat)(f:Nat->Va)(c:Nat)(v:Va):Prop where
 own:aX (f c) v
 nodes:∀(m:Nat) (op:Str) (ks:List Nat),nd[m]? = some (op,ks)->cls m=c->aX (bR n op (ks.map λk=>f (cls k))) v
 lub:∀u,aX (f c) u->(∀(m:Nat) (op:Str) (ks:List Nat),nd[m]? = some (op,ks)->cls m=c->aX (bR n op (ks.map λk=>f (cls k))) u)->aX v u
inductive jU(n:Nat)(f:Nat->Va)(a:Nat)(σ1:aa)(l rest:List (Str×List Nat))(ρ:af)(σ':aa):Prop
 | mk (pre v):ρ "self" = some (.ref .keeper)->Ro σ1 σ'->l=pre ++ rest->ρ "found" = some v.pv->v.ok n->aX (f a) v->(∀x∈pre,aX (bR n x.1 (x.2.map f)) v)->(∀u,aX (f a) u->(∀x∈pre,aX (bR n x.1 (x.2.map f)) u)->aX v u)->jU n f a σ1 l rest ρ σ'
theorem pz{c:Cx}(G:Gd c)(P:aD c){σ:aa}{nd:av}{cls:Nat->Nat}{n i:Nat}{ks:List Nat}{f:Nat->Va}{told:List (PV×PV)}(H:bM σ nd nd.length cls)(W:Wf nd)(K:bv σ n i ks f told){a:Nat}(ha:a < nd.length)(hca:cls a=a){Q:PV->aa->Prop}
 (hQ:∀v σ',Ro σ σ'->v.ok n->Dp nd cls n f a v->Q v.pv σ') (k:Nat) :
 aj c (k+5) .k_reckoned [.ref .keeper,.int (a:Nat)] σ Q:=by
 refine aw G P .k_reckoned rfl ⟨_,rfl,_,K.values,_,K.mget,_,rfl,K.get ⟨_,rfl,_,K.heapA,_,aL H.h rfl rfl,_,rfl,pu G P H ha (λσ1 p l hr hp hl hll=>?_) k⟩⟩;rw [hca] at hl;have hnc:∀{m:Nat} {x:Str×List Nat},nd[m]? = some x->kf nd cls m=(x.1,x.2.map cls):=λh=>by rw [kf,h]
 have hop:∀x∈l,eP x.1 x.2.length:=λx hx=>((hl x).mp hx).elim λm q=>by
  rw [q.2.2,hnc (DW q.1),DD];exact W.1 nd[m] (E9 q.1)
 refine cz hp (by rw [DD];exact au (DC hll (DH H.B.small (by decide)))) ?_;refine br aF (jU n f a σ1 l) (λx rest ρ σ2 I=>I.casesOn λpre v hs hr2 el hf hok h1 h2 h3=>⟨hr2.kept hp,_,rfl,λP' hP'=>?_⟩) (λρ σ2 I=>I.casesOn λpre v hs hr2 el hf hok h1 h2 h3=>?_) l _ _
  (.mk [] (f a) rfl St.refl rfl rfl (K.ok a) .rfl' (λ_ h=>absurd h DX) λu hu _=>hu)
 · have ho:=hop x (el▸D0 _ (.head _));have hk2:=ho.ok.2;have K2:=K.ro (hr.trans hr2);have hlen:(ai x.2).length+1 < ay:=by rw [ah];exact au (DC (Ei hk2) (by decide))
   refine ⟨_,af.put_self _ _ _,fQ hlen (cW (EE hlen) ?_)⟩;refine dg (λb=>(f b).pv) (λ_ _=>trivial) (au (DC hk2 (by decide))) (λb hb=>⟨_,rfl,λσ3 hr3 P1 P0 hp1=>iT rfl ⟨_,(af.put_ne _ _ (by decide)).trans hs,_,(K2.ro hr3).values,_,(K2.ro hr3).mget,_,af.put_self _ _ _,(K2.ro hr3).get (hp1 _ hr3)⟩⟩)
    λσ3 hr3=>bo λm σ4 r4 l4=>?_
   have K4:=K2.ro (hr3.trans r4);refine ⟨_,hs,_,K4.analysis,_,aL K4.C.1 rfl rfl,_,hf,_,hs,_,K4.analysis,_,aL K4.C.1 rfl rfl,_,(af.put_ne _ _ (by decide)).trans (af.put_self _ _ _),.tup (F9 0) (by decide) rfl ⟨_,af.put_self _ _ _,
    qP G P K4.C (vs:=x.2.map f) (by rw [DD];exact ho) (λz hz=>(DO.mp hz).elim λb q=>q.2▸K.ok b) (l4.trans (congrArg (some∘PO.list) (Ea (f:=f) (g:=Va.pv) (l:=x.2)).symm)) (λσ5 hr5=>kZ G P (hP' _ _ ?_) (k+3)) (k+2)⟩⟩
   exact .mk (pre ++ [x]) _ hs (hr2.trans (hr3.trans (r4.trans hr5))) (el.trans (Ey pre [x] rest).symm) (af.put_self _ _ _) (Va.ok_join hok (Va.ok_node K.C.2.1 K.C.2.2 _ _)) (h1.tr (aX.joinL _ _))
    (λz hz=>(Eb.mp hz).elim (λh=>(h2 z h).tr (aX.joinL _ _)) λh=>DS.mp h▸aX.joinR _ _) λu hu hz=>aX.lub (h3 u hu λz h=>hz z (D7 _ h)) (hz x (D0 _ (.head _)))
 · rw [Eg] at el;rw [← el] at h2 h3;refine ⟨hr2.kept hp,_,hf,hQ v _ (hr.trans hr2) hok ⟨h1,λm op ks hm hc=>?_,λu hu hz=>h3 u hu λx hx=>((hl x).mp hx).elim λm q=>?_⟩⟩
   · have:=h2 _ ((hl _).mpr ⟨m,(DR.mp hm).1,hc,rfl⟩);rw [hnc hm,Ea] at this;exact this
   · have hx:=DW q.1;rw [q.2.2,hnc hx,Ea];exact hz m _ _ hx q.2.1
theorem jV{p:al}{n:Nat}(h:p.isLoc=false):p≠.loc n:=λe=>EU ((e▸h:al.isLoc (.loc n)=false):true=false)
theorem St.upL{I:al->Prop}{σ σ' σ'':aa}{n:Nat}{o:PO}(h:St I σ σ')(hn:σ (.loc n)=none)(u:bL σ' (.loc n) o σ''):St I σ σ'':=
 ⟨λp hp hne=>(u.ne p λe=>hne (e▸hn)).trans (h.loc p hp hne),λp hp hI=>(u.ne p (jV hp)).trans (h.oth p hp hI)⟩
theorem St.none{I:al->Prop}{σ σ':aa}{n:Nat}(h:St I σ σ')(e:σ' (.loc n)=.none):σ (.loc n)=.none:=by
 cases q:σ (.loc n) with
 | none=>rfl
 | some o=>exact nomatch (h.keepL q).symm.trans e
theorem bv.upL{σ σ':aa}{n i m:Nat}{o:PO}{ks:List Nat}{f:Nat->Va}{told:List (PV×PV)}(K:bv σ n i ks f told)(u:bL σ (.loc m) o σ'):bv σ' n i ks f told:=K.of_eq λp hp=>u.ne p (jV hp.loc)
theorem cP.upL{σ σ':aa}{nd:av}{eqs:List (Nat×Nat)}{cls:Nat->Nat}{E S m:Nat}{o:PO}(H:cP σ nd eqs cls E S)(u:bL σ (.loc m) o σ'):cP σ' nd eqs cls E S:=H.of_eq λp hp=>u.ne p (jV hp.loc)
theorem cf.vals(i:Nat):cf (.kVals i):=.inr (.inr (.inr ⟨i,rfl⟩))
theorem qR{f:Nat->Va}{a:Nat}{v:Va}{P:Nat->Va->Prop}(h:∀c,P c (f c))(hv:P a v)(c:Nat):P c (updV f a v c):=by
 by_cases e:c=a
 · rw [e,fU];exact hv
 · rw [eQ e];exact h c
theorem bj.updV{nd:av}{eqs:List (Nat×Nat)}{n:Nat}{f:Nat->Va}{a:Nat}{v:Va}(h:bj nd eqs n f)(hv:∀w,PF nd eqs n w->aX v (w a)):bj nd eqs n (updV f a v):=λw hw=>qR (P:=λc x=>aX x (w c)) (h w hw) (hv w hw)
theorem nE{n:Nat}{f:Nat->Va}{a:Nat}{v:Va}(h:∀c,(f c).ok n)(hv:v.ok n)(c:Nat):(updV f a v c).ok n:=qR (P:=λ_ x=>x.ok n) h hv c
theorem lI{ks ks':List Nat}{f:Nat->Va}{a:Nat}{v:Va}(h:∀c,c∉ks->f c=.non)(h':∀x,x∈ks'↔x∈ks\/x=a)(c:Nat)(hc:c∉ks'):updV f a v c=.non:=by
 rw [h',not_or] at hc;rw [eQ hc.2];exact h c hc.1
theorem nF{ks ks':List Nat}{a:Nat}{P:Nat->Prop}(h:∀c∈ks,P c)(ha:P a)(h':∀x,x∈ks'↔x∈ks\/x=a)(c:Nat)(hc:c∈ks'):P c:=((h' c).mp hc).elim (h c) λe=>e▸ha
theorem qS{C:CP}{k:Nat}{x a:String}{px p:Pos}{v:PV}{ρ:af}{σ:aa}{Q:af->aa->Prop}{q:al}{c:Cl}{fs:List (String×PV)}(hx:ρ x=some (.ref q))(h:σ q=some (.inst c fs))(h1:fs.length < 20)(h2:a∈c.attrs)
 (K:∀σ',bL σ q (.inst c (dy fs a v)) σ'->Q ρ σ'):j6 C k (.attr (.var x px) a p) v ρ σ Q:=hG hx h h1 h2 (K _ (Mine.upd _ _ _))
theorem uO{σ:aa}{p:al}{ks:List Nat}{f:Nat->Va}{c:Nat}{v:Va}{Q:aa->Prop}(h:σ p=some (.dict (vD ks f)))(hn:ks.Nodup)(hl:ks.length < 10000)
 (hQ:∀ks' σ',bL σ p (.dict (vD ks' (updV f c v))) σ'->ks'.Nodup->(∀x,x∈ks'↔x∈ks\/x=c)->Q σ'):eh σ Q v.pv (.ref p) (.int (c:Nat)):=
 (BM hn).elim λks' q=>zm h (kh _ _ _) ((DD _).symm▸au hl) (hQ ks' _ ⟨(aa.set_self _ _ _).trans (congrArg (some∘PO.dict) q.1),λ_ h=>aa.set_ne _ _ h⟩ q.2.1 q.2.2)
inductive oH(nd:av)(eqs:List (Nat×Nat))(n:Nat)(m:Nat)(ks:List Nat)(σ2:aa)(post:List Nat)(ρ:af)(σ':aa):Prop
 | mk (ks' f'):(∀c∈post,c∈ks)->ρ "self" = some (.ref .keeper)->ρ "found" = some (.ref (.kVals (m+1)))->St (λp=>p=.kVals (m+1)) σ2 σ'->σ' (.kVals (m+1))=some (.dict (vD ks' f'))->ks'.Nodup->(∀c,c∉ks'->f' c=.non)->(∀c∈ks',c < nd.length)->(∀c,(f' c).ok n)->bj nd eqs n f'->oH nd eqs n m ks σ2 post ρ σ'
theorem uP{c:Cx}(G:Gd c)(P:aD c){σ:aa}{nd:av}{eqs:List (Nat×Nat)}{cls:Nat->Nat}{E S n i:Nat}{ks:List Nat}{f:Nat->Va}{told:List (PV×PV)}(H:cP σ nd eqs cls E S)(K:bv σ n i ks f told)
 (hks:∀c∈ks,c < nd.length) (hS:bj nd eqs n f) {Q:PV->aa->Prop}
 (hQ:∀σ' i' ks' f',St cf σ σ'->bv σ' n i' ks' f' told->(∀c∈ks',c < nd.length)->bj nd eqs n f'->Q .none σ') (k:Nat) :
 aj c (k+3) .k_begun [.ref .keeper] σ Q:=by
 refine aw G P .k_begun rfl ?_;have hsm:=H.rd.B.small;refine K.free.elim λm q=>x8 (.kVals (m+1)) (q.2 _ (D6 _)) λσ1 u1=>?_;have hne:al.kVals i≠.kVals (m+1):=λe=>D1 (H7 q.1) (al.kVals.inj e);have mkK:∀{σ':aa},(∀p,cf p->p≠.kVals (m+1)->σ' p=σ p)->bv σ' n i ks f told:=λh=>{
  kp:=(h _ (.inl rfl) nofun).trans K.kp
  C:=⟨(h _ (.inr (.inl rfl)) nofun).trans K.C.1,K.C.2⟩
  vals:=(h _ (cf.vals _) hne).trans K.vals
  nodup:=K.nodup
  out:=K.out
  told:=(h _ (.inr (.inr (.inl rfl))) nofun).trans K.told
  free:=⟨m+1,FG q.1,λj hj=>(h _ (cf.vals _) λe=>EY hj (al.kVals.inj e)).trans (q.2 j (EE hj))⟩
  ok:=K.ok}
 have K1:=mkK λp _ h=>u1.ne p h;have t1:St cf σ σ1:=u1.st rfl (cf.vals _);have H1:=H.keeper t1;have hl64:ks.length < 60:=DC (aM K.nodup hks) hsm;refine ⟨_,rfl,_,K1.values,yk K1.vals (DH hl64 (by decide)) λr hrp _=>bo λm2 σ2 hr2 hq2=>?_⟩;have k2:∀{σ3},St (λp=>p=.kVals (m+1)) σ2 σ3->∀p,p.isLoc=false->p≠.kVals (m+1)->σ3 p=σ1 p:=λt p h1 h2=>(t.oth p h1 h2).trans (hr2.at h1);refine cz hq2 (by rw [ah,hrp.length_eq];exact au (DH hl64 (by decide))) ?_;refine br (λx:Nat=>.int (x:Int)) (oH nd eqs n m ks σ2) (λa post ρ σ3 I=>I.casesOn λks' f' hin hs hfo t3 e1 e2 e3 e4 e5 e6=>⟨t3.keepL hq2,_,rfl,λP' hP'=>?_⟩)
  (λρ σ3 I=>I.casesOn λks' f' hin hs hfo t3 e1 e2 e3 e4 e5 e6=>⟨t3.keepL hq2,?_⟩) r _ _
  (.mk [] (λ_=>.non) (λc h=>hrp.mem_iff.mp h) rfl rfl St.refl ((hr2.at rfl).trans u1.at_) Fg (λ_ _=>rfl) (λ_ h=>absurd h DX) (λ_=>Va.ok_non) λw hw c=>.non)
 · have har:=hin a (.head _);have hal:=hks a har;have K3:=mkK λp hp h=>(k2 t3 p hp.loc h).trans (u1.ne p h);have H3:cP σ3 nd eqs cls E S:=H1.of_eq λp hp=>k2 t3 p hp.loc λe=>hp.notK (e▸cf.vals _);refine ⟨_,hs,_,K3.heapA,_,aL H3.rd.h rfl rfl,_,af.put_self _ _ _,bF G P H3.rd hal ⟨_,hs,_,K3.analysis,_,aL K3.C.1 rfl rfl,_,hfo,_,iR e1 rfl,_,af.put_self _ _ _,ki e1 e2 e3 ⟨_,hs,_,K3.values,_,(af.put_ne _ _ (by decide)).trans (af.put_self _ _ _),
    bz K3.vals (kh _ _ _) (wA K.nodup har) (kZ G P ⟨_,hfo,_,af.put_self _ _ _,uO e1 e2 (DC (aM e2 e4) (DH hsm (by decide))) λks2 σ4 u4 d2 d3=>hP' _ _ ?_⟩ (k+1))⟩⟩ k⟩
   exact .mk ks2 _ (λc h=>hin c (.tail _ h)) hs hfo (t3.trans (u4.st rfl rfl)) u4.at_ d2 (lI e3 d3) (nF e4 (H3.rd.U.lt hal) d3) (nE e5 (Va.ok_join (e5 _) (K.ok _))) (e6.updV λw hw=>aX.lub (e6 w hw _) (hw.like (H.ok.sound a)▸hS w hw a))
 · have K3:=mkK λp hp h=>(k2 t3 p hp.loc h).trans (u1.ne p h);refine ⟨_,hfo,qS hs K3.kp (EZ rfl) (by decide) λσ4 u4=>hQ σ4 (m+1) ks' f' (t1.trans ((Ro.weak hr2).trans ((t3.weak λp (h:p=_)=>h▸cf.vals _).trans (u4.st rfl (.inl rfl))))) ?_ e4 e6⟩;exact {
    kp:=u4.at_
    C:=⟨(u4.ne _ (by nofun)).trans K3.C.1,K3.C.2⟩
    vals:=(u4.ne _ (by nofun)).trans e1
    nodup:=e2
    out:=e3
    told:=(u4.ne _ (by nofun)).trans K3.told
    free:=⟨m+1,DQ _,λj hj=>(u4.ne _ (by nofun)).trans ((k2 t3 _ rfl λe=>EY hj (al.kVals.inj e)).trans ((u1.ne _ λe=>EY hj (al.kVals.inj e)).trans (q.2 j (EE hj))))⟩
    ok:=e5}
theorem wB{c:Cx}(G:Gd c)(P:aD c){σ:aa}{n:Nat}(h:σ .consts=some (.inst .consts [])){Q:PV->aa->Prop}(hQ:Q .none (σ.set .consts (.inst .consts [("n",.int (n:Nat))])))(k:Nat) :
 aj c (k+1) .c_init [.ref .consts,.int (n:Nat)] σ Q:=aw G P .c_init rfl ⟨_,rfl,hG rfl h (by decide) (by decide) hQ⟩
theorem wC{c:Cx}(G:Gd c)(P:aD c){σ:aa}{n:Nat}(h:σ .keeper=some (.inst .keeper []))(hC:KC σ n)(h1:σ .kTold=none)(h2:∀j,σ (.kVals j)=none){Q:PV->aa->Prop}
 (hQ:∀σ',St cf σ σ'->bv σ' n 0 [] (λ_=>.non) []->Q .none σ') (k:Nat):aj c (k+1) .k_init [.ref .keeper,.ref .heap,.ref .consts] σ Q:=by
 refine aw G P .k_init rfl ⟨_,rfl,qS rfl h (by decide) (by decide) λσ1 u1=>⟨_,rfl,qS rfl u1.at_ (by decide) (by decide) λσ2 u2=>?_⟩⟩;have k2:∀p,p≠.keeper->σ2 p=σ p:=λp h=>(u2.ne p h).trans (u1.ne p h);refine gH (p:=.kVals 0) ((k2 _ (by nofun)).trans (h2 0)) (by decide) rfl u2.at_ (by decide) (by decide) λσ3 b3 n3 f3=>gH (p:=.kTold) ((f3 _ (by nofun) (by nofun)).trans ((k2 _ (by nofun)).trans h1)) (by decide) rfl b3 (by decide) (by decide) λσ4 b4 n4 f4=>hQ _ ?_ ?_
 · exact (u1.st rfl (.inl rfl)).trans ((u2.st rfl (.inl rfl)).trans ((qM rfl rfl (cf.vals _) (.inl rfl) f3).trans (qM rfl rfl (.inr (.inr (.inl rfl))) (.inl rfl) f4)))
 · exact {
    kp:=b4
    C:=⟨(f4 _ (by nofun) (by nofun)).trans ((f3 _ (by nofun) (by nofun)).trans ((k2 _ (by nofun)).trans hC.1)),hC.2⟩
    vals:=(f4 _ (by nofun) (by nofun)).trans n3
    nodup:=Fg
    out:=λ_ _=>rfl
    told:=n4
    free:=⟨0,DQ _,λj hj=>(f4 _ (by nofun) (by nofun)).trans ((f3 _ (λe=>EY hj (al.kVals.inj e)) (by nofun)).trans ((k2 _ (by nofun)).trans (h2 j)))⟩
    ok:=λ_=>Va.ok_non}
theorem qT{chk:aa->Prop}{bnd:PV->Option af}{kv:af->aa->(PV->PV->aa->Prop)->Prop}{Q:List (PV×PV)->aa->Prop}{σ:aa}
 (hc:chk σ) (h:∀a:Nat,∃ρ,bnd (.int (a:Nat))=some ρ/\∀K:PV->PV->aa->Prop,K (.int (a:Nat)) (.bool true) σ->kv ρ σ K) :
 ∀(l pre:List Nat),(pre ++ l).Nodup->(pre ++ l).length < ay->Q (cg (pre ++ l)) σ->dJ chk bnd kv (ai l) (cg pre) σ Q:=by
 intro l;induction l with
 | nil=>exact λpre hn hl hQ=>⟨hc,Eg pre▸hQ⟩
 | cons a r ih=>
  intro pre hn hl hQ;have hnot:a∉pre:=λhm=>(EV.mp hn).2.2 a hm a (.head _) rfl;refine (h a).elim λρ q=>⟨hc,?_,ρ,q.1,q.2 _ ⟨dm pre (λx=>x) (λ_=>.bool true) a,?_⟩⟩
  · rw [cg,DD];exact DC (by rw [DG];exact Ed _ _) hl
  · rw [i7 (fR hnot),i9];rw [Fl pre a r] at hn hl hQ;exact ih _ hn hl hQ
theorem nG(l:List Nat)(a:Nat):DK (cg l) (.int (a:Nat)):=dm l (λx=>x) (λ_=>.bool true) a
theorem uQ{l:List Nat}{a:Nat}(hn:l.Nodup):(aB (cg l) (.int (a:Nat))).isSome=decide (a∈l):=by
 by_cases h:a∈l
 · rw [jL hn h,decide_eq_true h];rfl
 · rw [dD (fR h),decide_eq_false h];rfl
theorem CW{σ:aa}{p:al}{l:List Nat}{a:Nat}{Q:PV->aa->Prop}(h:σ p=some (.dict (cg l)))(hn:l.Nodup)(hl:l.length < 10000)(ha:a∈l)
 (hQ:∀l' σ',l'.Nodup->(∀x,x∈l'↔x∈l/\x≠a)->bL σ p (.dict (cg l')) σ'->Q (.bool true) σ'):cb σ Q .dPop (.ref p) [.int (a:Nat)]:=
 .dpop h (nG _ _) ((DD _).symm▸au hl) (jL hn ha) (hQ (l.filter λx=>x != a) _ (Fw _ hn) (λx=>by rw [EM,bne_iff_ne])
  ⟨(aa.set_self _ _ _).trans (congrArg (some∘PO.dict) (qF (f:=λx:Nat=>x) (g:=λ_=>.bool true) ((II l).symm▸hn))),λ_ h=>aa.set_ne _ _ h⟩)
theorem dR{σ:aa}{o:PO}{Q:PV->aa->Prop}(h:∀n σ',σ (.loc n)=none->bL σ (.loc n) o σ'->Q (.ref (.loc n)) σ'):aQ σ o Q:=.inl λn hn=>h n _ hn (upd _ _ _)
theorem yl{c:Cx}(G:Gd c)(P:aD c){σ:aa}{nd:av}{eqs:List (Nat×Nat)}{cls:Nat->Nat}{E S:Nat}(H:cP σ nd eqs cls E S){a:Nat}(ha:a < nd.length)(hca:cls a=a){Q:PV->aa->Prop}
 (hQ:∀σ' m (l:List Nat),σ (.loc m)=none->Ro σ σ'->σ' (.loc m)=some (.list (ai l))->(∀(x:Nat) (op:Str) (ks:List Nat),nd[x]? = some (op,ks)->∀kid∈ks,cls kid=a->x∈l)->(∀x∈l,x < nd.length)->l.length<=60->Q (.ref (.loc m)) σ') (k:Nat) :
 aj c (k+3) .h_users [.ref .heap,.int (a:Nat)] σ Q:=
 H.casesOn λ_ kn us HA C=>uK G P HA ha (λσ' m l hm hr hl h1 h2=>hQ σ' m l hm hr hl (λx op ks hx kid hk hc=>(h1 x).mpr (by rw [hca,← hc];exact C.users x op ks hx kid hk)) (λx hx=>C.usN _ _ ((h1 x).mp hx)) (D9 (DC h2 HA.S2))) k
noncomputable def nH(nd:av)(cls:Nat->Nat)(n:Nat)(f:Nat->Va)(c:Nat):Prop:=∀(m:Nat) (op:Str) (ks:List Nat),nd[m]? = some (op,ks)->cls m=c->aX (bR n op (ks.map λk=>f (cls k))) (f c)
structure fv(σ:aa)(nd:av)(eqs:List (Nat×Nat))(cls:Nat->Nat)(E S n:Nat)(told:List (PV×PV))(a b i:Nat)(ks:List Nat)(f:Nat->Va)(row wk:List Nat)(σ':aa):Prop where
 t:St cf σ σ'
 H:cP σ' nd eqs cls E S
 K:bv σ' n i ks f told
 q:σ' (.loc a)=some (.list (ai row))
 w:σ' (.loc b)=some (.dict (cg wk))
section
variable {σ:aa} {nd:av} {eqs:List (Nat×Nat)} {cls:Nat->Nat} {E S n:Nat} {told:List (PV×PV)} {a b i:Nat} {ks:List Nat} {f:Nat->Va} {row wk:List Nat} {σ' σ'':aa} (B:fv σ nd eqs cls E S n told a b i ks f row wk σ')
include B
theorem fv.ro(r:Ro σ' σ''):fv σ nd eqs cls E S n told a b i ks f row wk σ'':=⟨B.t.trans (Ro.weak r),B.H.ro r,B.K.ro r,r.keepL B.q,r.keepL B.w⟩
theorem fv.upB(h:σ (.loc b)=none)(hab:al.loc a≠.loc b){wk':List Nat}(u:bL σ' (.loc b) (.dict (cg wk')) σ''):fv σ nd eqs cls E S n told a b i ks f row wk' σ'':=⟨B.t.upL h u,B.H.upL u,B.K.upL u,(u.ne _ hab).trans B.q,u.at_⟩
theorem fv.upA(h:σ (.loc a)=none)(hab:al.loc a≠.loc b){row':List Nat}(u:bL σ' (.loc a) (.list (ai row')) σ''):fv σ nd eqs cls E S n told a b i ks f row' wk σ'':=⟨B.t.upL h u,B.H.upL u,B.K.upL u,u.at_,(u.ne _ hab.symm).trans B.w⟩
end
theorem bv.setV{σ σ':aa}{n i:Nat}{ks ks':List Nat}{f:Nat->Va}{told:List (PV×PV)}(K:bv σ n i ks f told){c:Nat}{v:Va}(u:bL σ (.kVals i) (.dict (vD ks' (updV f c v))) σ')(d2:ks'.Nodup)(d3:∀x,x∈ks'↔x∈ks\/x=c)(hv:v.ok n):bv σ' n i ks' (updV f c v) told where
 kp:=(u.ne _ (by nofun)).trans K.kp
 C:=⟨(u.ne _ (by nofun)).trans K.C.1,K.C.2⟩
 vals:=u.at_
 nodup:=d2
 out:=lI K.out d3
 told:=(u.ne _ (by nofun)).trans K.told
 free:=K.free.imp λm q=>⟨q.1,λj hj=>(u.ne _ λe=>EY (DC q.1 hj) (al.kVals.inj e)).trans (q.2 j hj)⟩
 ok:=nE K.ok hv
theorem fv.setV{σ:aa}{nd:av}{eqs:List (Nat×Nat)}{cls:Nat->Nat}{E S n:Nat}{told:List (PV×PV)}{a b i:Nat}{ks ks':List Nat}{f:Nat->Va}{row wk:List Nat}{σ' σ'':aa}(B:fv σ nd eqs cls E S n told a b i ks f row wk σ')
 {c:Nat} {v:Va} (u:bL σ' (.kVals i) (.dict (vD ks' (updV f c v))) σ'') (d2:ks'.Nodup) (d3:∀x,x∈ks'↔x∈ks\/x=c) (hv:v.ok n):fv σ nd eqs cls E S n told a b i ks' (updV f c v) row wk σ'':=
 have t:St cf σ' σ'':=u.st rfl (cf.vals _)
 ⟨B.t.trans t,B.H.keeper t,B.K.setV u d2 d3 hv,t.keepL B.q,t.keepL B.w⟩
inductive BN(σ:aa)(nd:av)(eqs:List (Nat×Nat))(cls:Nat->Nat)(E S n:Nat)(told:List (PV×PV))(a b m:Nat)(ρ:af)(σ':aa):Prop
 | mk (i:Nat) (ks:List Nat) (f:Nat->Va) (done pend wk:List Nat) (hs:ρ "self" = some (.ref .keeper)) (hrow:ρ "row" = some (.ref (.loc a))) (hwai:ρ "waiting" = some (.ref (.loc b))) (hsp:ρ "spot" = some (.int (done.length:Nat)))
  (B:fv σ nd eqs cls E S n told a b i ks f (done ++ pend) wk σ') (hks5:∀c∈ks,c < nd.length) (hS5:bj nd eqs n f)
  (hwn:wk.Nodup) (hpn:pend.Nodup) (hwp:∀x,x∈wk↔x∈pend) (hpc:∀x∈pend,x < nd.length/\cls x=x) (hst:∀c,c < nd.length->cls c=c->c∉pend->nH nd cls n f c)
  (hm:m=60*hts nd.length f+pend.length) (hmb:done.length+m<=9000):BN σ nd eqs cls E S n told a b m ρ σ'
inductive BO(σ:aa)(nd:av)(eqs:List (Nat×Nat))(cls:Nat->Nat)(E S n:Nat)(told:List (PV×PV))(a b i:Nat)(f:Nat->Va)(ks2 dn pend l:List Nat)(mu:Nat)(post:List Nat)(ρ:af)(σ':aa):Prop
 | mk (pre pend' wk:List Nat) (er:l=pre ++ post) (hs:ρ "self" = some (.ref .keeper)) (hrow:ρ "row" = some (.ref (.loc a))) (hwai:ρ "waiting" = some (.ref (.loc b))) (q4:ρ "spot" = some (.int (dn.length:Nat)))
  (B:fv σ nd eqs cls E S n told a b i ks2 f (dn ++ pend') wk σ') (hla:σ' (.loc mu)=some (.list (ai l))) (hwn2:wk.Nodup) (hpn2:pend'.Nodup) (hwp2:∀x,x∈wk↔x∈pend') (hpc2:∀x∈pend',x < nd.length/\cls x=x)
  (hinc:∀x∈pend,x∈pend') (hpre:∀x∈pre,cls x∈pend'):BO σ nd eqs cls E S n told a b i f ks2 dn pend l mu post ρ σ'
theorem iD{c:Cx}(G:Gd c)(P:aD c){σ:aa}{nd:av}{eqs:List (Nat×Nat)}{cls:Nat->Nat}{E S n i:Nat}{ks:List Nat}{f:Nat->Va}{told:List (PV×PV)}(H:cP σ nd eqs cls E S)(K:bv σ n i ks f told)
 (hks:∀c∈ks,c < nd.length) (hS:bj nd eqs n f) {Q:PV->aa->Prop}
 (hQ:∀σ' i' ks' f',St cf σ σ'->bv σ' n i' ks' f' told->(∀c∈ks',c < nd.length)->bj nd eqs n f'->(∀c,c < nd.length->cls c=c->nH nd cls n f' c)->Q .none σ') (k:Nat) :
 aj c (k+6) .k_settle [.ref .keeper] σ Q:=by
 refine aw G P .k_settle rfl ⟨_,rfl,_,aL K.kp rfl rfl,uP G P H K hks hS (λσ1 i1 ks1 f₁ t1 K1 hks1 hS1=>?_) (k+2)⟩;have hsm:=H.rd.B.small;have hW:Wf nd:=H.casesOn λw _ _ _ _=>w;have H1:=H.keeper t1;refine ⟨_,rfl,_,K1.heapA,_,aL H1.rd.h rfl rfl,gJ G P H1.rd (λσ2 p hr2 hp=>?_) (k+3)⟩;have hLm:∀x,x∈(DV nd.length).filter (λa=>cls a == a)↔x < nd.length/\cls x=x:=λx=>by rw [EM,D3,beq_iff_eq]
 have hLn:((DV nd.length).filter λa=>cls a == a).Nodup:=Fw _ F8;generalize ((DV nd.length).filter λa=>cls a == a)=L at hp hLm hLn;have hL60:L.length < 60:=DC (aM hLn λx hx=>((hLm x).mp hx).1) hsm;have hLb:L.length < ay:=au (DH hL60 (by decide));have hLi:(ai L).length < ay:=(ah L).symm▸hLb;refine .list hp hLi (dR λa σ3 hna u3=>⟨_,rfl,cz u3.at_ hLi (qT u3.at_ (λx=>⟨_,rfl,λK' hK'=>⟨_,af.put_self _ _ _,hK'⟩⟩) L [] hLn hLb (dR λb σ4 hnb u4=>?_))⟩);have t2:St cf σ σ2:=t1.trans (Ro.weak hr2);have hna0:=t2.none hna;have t3:=t2.upL hna0 u3;have hnb0:=t3.none hnb;have hab:=bh u3.at_ hnb;have B4:fv σ nd eqs cls E S n told a b i1 ks1 f₁ L L σ4:=⟨t3.upL hnb0 u4,((H1.ro hr2).upL u3).upL u4,((K1.ro hr2).upL u3).upL u4,(u4.ne _ hab).trans u3.at_,u4.at_⟩;clear hr2 u3 u4 t2 t3 t1 K1 hp hna hnb H1;have hh:=BL nd.length f₁;refine ⟨9001,dN (BN σ nd eqs cls E S n told a b) (λm ρ σ5 I K' hK'=>I.casesOn λi ks f done pend wk hs hrow hwai hsp B hks5 hS5 hwn hpn hwp hpc hst hm hmb=>?_) 9001 (60*hts nd.length f₁+L.length) _ _ (by lia)
  (.mk i1 ks1 f₁ [] L L rfl rfl rfl rfl B4 hks1 hS1 hLn hLn (λ_=>Iff.rfl) (λx hx=>(hLm x).mp hx) (λc h1 h2 h3=>absurd ((hLm c).mpr ⟨h1,h2⟩) h3) rfl (by show 0+_<=_;lia))⟩
 clear hLm hLn hLb hLi B4 hh hL60 hS1 hks1;refine ⟨_,hsp,_,hrow,cL B.q ((ah _).trans DG) (by lia) (sT ?_)⟩;cases pend with
 | nil=>exact iB (decide_eq_false λh=>Fi _ (EG.mp h)) (hQ _ i ks f B.t B.K hks5 hS5 λc h1 h2=>hst c h1 h2 DX)
 | cons c0 pend=>
  refine iT (decide_eq_true (EG.mpr (FN (FB _)))) ?_;have hc:=hpc c0 (.head _);have hpn:=EO.mp hpn;have hsub:∀x∈pend,x < nd.length/\cls x=x:=λx hx=>hpc x (.tail _ hx);have hd:done.length < 9001:=by lia
  have hwl:wk.length < 60:=DC (aM hwn λx hx=>(hpc x ((hwp x).mp hx)).1) hsm;refine ⟨_,hrow,_,hsp,bH B.q (DH hd (by decide)) (dC (by rw [EW (DQ _),Ie];rfl)) ⟨_,hsp,.addI ⟨_,rfl,rfl,_,hwai,_,iR B.w rfl,_,rfl,
   CW B.w hwn (DH hwl (by decide)) ((hwp c0).mpr (.head _)) λwk' σ6 hwn' hwk' u6=>?_⟩⟩⟩
  have hwk':∀x,x∈wk'↔x∈pend:=λx=>(hwk' x).trans (by rw [hwp,D5];exact ⟨λh=>h.1.resolve_left h.2,λh=>⟨.inr h,λe=>hpn.1 (e▸h)⟩⟩);rw [Fl] at B;have B6:=B.upB hnb0 hab u6;refine ⟨_,hs,_,aL B6.K.kp rfl rfl,_,rfl,pz G P B6.H.rd hW B6.K hc.1 hc.2 (λv σ7 hr7 hvok hrk=>?_) k⟩;have B7:=B6.ro hr7;clear B6 B u6 hwp hpc hwl hwn;have hb:(done ++ [c0]).length+(60*hts nd.length f+pend.length)<=9000:=by
   rw [DG,Hs,JM [c0].length];rw [hm] at hmb;exact hmb
  have hspot:some (PV.int (((done.length:Nat):Int)+1))=some (.int ((done ++ [c0]).length:Nat)):=by rw [DG];rfl
  refine ⟨_,rfl,_,hs,_,B7.K.values,_,B7.K.mget,_,rfl,B7.K.get (yh ?_)⟩;by_cases ev:v=f c0
  · refine iB (congrArg Ga (decide_eq_true ev)) (hK' (60*hts nd.length f+pend.length) _ _ (by rw [hm];exact D6 _) (.mk i ks f (done ++ [c0]) pend wk' hs hrow hwai hspot B7 hks5 hS5 hwn' hpn.2 hwk' hsub (λc h1 h2 h3=>?_) rfl hb));by_cases ec:c=c0
    · rw [ec];exact λm op ks hm hc=>ev▸hrk.nodes m op ks hm hc
    · exact hst c h1 h2 λh=>(D5.mp h).elim ec h3
  have hksl:=DC (aM B7.K.nodup hks5) hsm;refine iT (congrArg Ga (decide_eq_false ev)) ⟨_,rfl,_,hs,_,B7.K.values,_,rfl,uO B7.K.vals B7.K.nodup (DH hksl (by decide)) λks2 σ8 u8 d2 d3=>?_⟩;have B8:=B7.setV u8 d2 d3 hvok;have hS8:bj nd eqs n (updV f c0 v):=hS5.updV λw hw=>hrk.lub _ (hS5 w hw c0) λm op kk hm hc=>by
   have h2:w m=w c0:=hc▸hw.like (B7.H.ok.sound m);exact aX.tr (aX.node (jT.map λx _=>hw.like (B7.H.ok.sound x)▸hS5 w hw _)) (h2▸hw.node hm)
  have hhlt:=s9 (f:=f) (v:=v) hc.1 (zu hrk.own (Km ev));clear B7 u8 hS5 hksl d2 hr7 hvok;refine ⟨_,hs,_,B8.K.heapA,_,aL B8.H.rd.h rfl rfl,_,rfl,yl G P B8.H hc.1 hc.2 (λσ9 mu l hmu hr9 hl9 hu1 hu2 hul=>?_) (k+2)⟩;have hamu:=bh B8.q hmu;have hbmu:=bh B8.w hmu;refine cz hl9 (by rw [ah];exact au (DC hul (by decide))) ?_;refine br (λx:Nat=>.int (x:Int)) (BO σ nd eqs cls E S n told a b i (updV f c0 v) ks2 (done ++ [c0]) pend l mu)
   (λu post ρ3 σa J=>J.casesOn λpre pend' wk er q1 q2 q3 q4 Ba hla hwn2 hpn2 hwp2 hpc2 hinc hpre=>⟨hla,_,rfl,λP' hP'=>?_⟩)
   (λρ3 σa J=>J.casesOn λpre pend' wk er q1 q2 q3 q4 Ba hla hwn2 hpn2 hwp2 hpc2 hinc hpre=>⟨hla,?_⟩) l _ _ (.mk [] pend wk' rfl hs hrow hwai hspot (B8.ro hr9) hl9 hwn' hpn.2 hwk' hsub (λ_ h=>h) λ_ h=>absurd h DX)
  · have huN:=hu2 u (er▸D0 _ (.head _));have er2:=er.trans (Fl pre u post);refine ⟨_,q1,_,Ba.K.heapA,_,aL Ba.H.rd.h rfl rfl,_,rfl,bF G P Ba.H.rd huN ⟨_,rfl,_,q3,sS Ba.w (nG _ _) ?_⟩ (k+3)⟩;rw [uQ hwn2];by_cases ew:cls u∈wk
    · exact iB (congrArg Ga (decide_eq_true ew)) (hP' _ _ (.mk (pre ++ [u]) pend' wk er2 q1 q2 q3 q4 Ba hla hwn2 hpn2 hwp2 hpc2 hinc λx hx=>eF (P:=λx=>cls x∈pend') hx hpre ((hwp2 _).mp ew)))
    have hwl:wk.length < 60:=DC (aM hwn2 λx hx=>(hpc2 x ((hwp2 x).mp hx)).1) hsm;have hpl:pend'.length < 60:=DC (aM hpn2 λx hx=>(hpc2 x hx).1) hsm;refine iT (congrArg Ga (decide_eq_false ew)) ⟨_,q3,_,rfl,gu Ba.w (nG _ _) ((DD _).symm▸au (DH hwl (by decide))) (fR ew) λσb ub=>?_⟩;rw [i9] at ub;have Bb:=Ba.upB hnb0 hab ub;refine ⟨_,q2,_,fe Bb.q rfl,_,rfl,mo rfl Bb.q (by rw [DG];lia) λσc uc=>hP' _ _ ?_⟩;rw [Ey] at uc;exact .mk (pre ++ [u]) (pend' ++ [cls u]) (wk ++ [cls u]) er2 q1 q2 q3 q4 (Bb.upA hna0 hab uc) ((uc.ne _ hamu.symm).trans ((ub.ne _ hbmu.symm).trans hla)) (dh hwn2 ew) (dh hpn2 λh=>ew ((hwp2 _).mpr h)) (λx=>by rw [Eb,Eb,hwp2])
     (λx hx=>eF (P:=λx=>x < nd.length/\cls x=x) hx hpc2 ⟨Ba.H.rd.U.lt huN,Ba.H.rd.U.idem u⟩) (λx hx=>D7 _ (hinc x hx)) λx hx=>eF (P:=λx=>cls x∈pend' ++ [cls u]) hx (λx h=>D7 _ (hpre x h)) (D0 _ (.head _))
  · rw [Eg] at er;rw [← er] at hpre;have hpl:pend'.length < 60:=DC (aM hpn2 λx hx=>(hpc2 x hx).1) hsm;refine hK' (60*hts nd.length (updV f c0 v)+pend'.length) _ _ (by rw [hm];lia) (.mk i ks2 (updV f c0 v) (done ++ [c0]) pend' wk q1 q2 q3 q4 Ba (nF hks5 hc.1 d3) hS8 hwn2 hpn2 hwp2 hpc2 (λc h1 h2 h3 m op kk hm hc=>?_) rfl (by lia));have hnk:∀kid∈kk,cls kid≠c0:=λkid hk e=>h3 (hc▸hpre m (hu1 m op kk hm kid hk e));rw [show kk.map (λk=>updV f c0 v (cls k))=kk.map (λk=>f (cls k)) from El λkid hk=>eQ (hnk kid hk)];by_cases ec:c=c0
    · rw [ec,fU];exact hrk.nodes m op kk hm (hc.trans ec)
    · rw [eQ ec];exact hst c h1 h2 (λh=>(D5.mp h).elim ec λh=>h3 (hinc c h)) m op kk hm hc
noncomputable def bK(v:Int):Str:=Dy (toString v)
theorem kj{v:Int}(h0:0<=v)(h7:v < 7):eP (bK v) 0/\numOf (bK v)=some v:=(GF h0).elim λk e=>by
 have a:(DV 7).all (λk=>decide (bK (k:Nat)∈nums.map (·.1)) && decide (numOf (bK (k:Nat))=some ((k:Nat):Int)))=true:=by decide +kernel
 rw [e] at h7 ⊢;exact bA (Et.mp a k (D3.mpr (EG.mp h7))) λa b=>⟨.inl ⟨rfl,.inr (.inr (of_decide_eq_true a))⟩,of_decide_eq_true b⟩
noncomputable def ae(j:Nat):Str:=Dy "fold" ++ Dy (toString (j:Int))
noncomputable def wD(s:Str):Nat:=(s.cps.toList.drop 4).foldl (λa c=>10*a+(c - 48)) 0
theorem kl:∀j < 200,wD (ae j)=j/\(ae j).length < 20:=by decide +kernel
theorem tf{i j:Nat}(hi:i < 200)(hj:j < 200)(h:ae i=ae j):i=j:=(kl i hi).1.symm.trans ((congrArg wD h).trans (kl j hj).1)
noncomputable def cR(l:List PV):List (PV×PV):=l.zipIdx.map λx=>(PV.str (ae x.2),x.1)
theorem uR(l:List PV)(x:PV):cR (l ++ [x])=cR l ++ [(.str (ae l.length),x)]:=by
 rw [cR,cR,KJ,D4,FK];rfl
theorem eZ(l:List PV):(cR l).length=l.length:=by rw [cR,DD,HD]
theorem oJ{l:List PV}{kv:PV×PV}(h:kv∈cR l):∃j,l[j]? = some kv.2/\kv.1=.str (ae j):=
 (DO.mp h).elim λx q=>⟨x.2,q.2▸GW.mp q.1,q.2▸rfl⟩
theorem qU(l:List PV)(s:Str):DK (cR l) (.str s):=⟨trivial,Eo _,λkv h=>(oJ h).elim λj q=>by rw [q.2];exact ⟨⟨rfl,rfl⟩,Eo _⟩⟩
theorem wF{l:List PV}(hl:l.length < 200){j:Nat}(hj:l.length<=j)(hj2:j < 200):∀kv∈cR l,kv.1≠.str (ae j):=λkv h e=>(oJ h).elim λi q=>by
 have hi:=(DR.mp q.1).1;exact D1 (DI hi hj) (tf (DH hi hl) hj2 (PV.str.inj (q.2.symm.trans e)))
theorem wG{l:List PV}{j:Nat}{x:PV}(hl:l.length < 200)(h:l[j]? = some x):aB (cR l) (.str (ae j))=some x:=by
 refine cG ?_ (DO.mpr ⟨(x,j),GW.mpr h,rfl⟩);rw [cR,Ea];show (Jb ((λj:Nat=>PV.str (ae j))∘La) l.zipIdx).Nodup;rw [← Ea,List.zipIdx_map_snd,← ID,Mf,E5];exact (Gk (n:=l.length)).imp_of_mem λha hb hab e=>D1 hab (tf (DH (D3.mp ha) hl) (DH (D3.mp hb) hl) (PV.str.inj e))
theorem sk{c:Cx}(G:Gd c)(P:aD c){σ:aa}{nd:av}{eqs:List (Nat×Nat)}{cls:Nat->Nat}{E S:Nat}(H:bG σ nd eqs cls E S){op:Str}(ho:eP op 0)(hb1:nd.length+1 < 60)(hb2:E+2 < 4000){Q:PV->aa->Prop}
 (hOld:∀(i:Nat) σ',nd[i]? = some (op,[])->Ro σ σ'->Q (.int (i:Nat)) σ')
 (hNew:(op,[])∉nd->∀σ',St bp σ σ'->bG σ' (nd ++ [(op,[])]) eqs cls (E+1) S->Q (.int (nd.length:Nat)) σ') (k:Nat):aj c (k+6) .h_put [.ref .heap,.tup [.str op]] σ Q:=by
 refine aw G P .h_put rfl ⟨_,rfl,_,aL H.rd.h rfl rfl,_,rfl,.tup (F9 0) (by decide) rfl ⟨_,rfl,fQ (au (by decide)) (cW (au (by decide)) (And.intro trivial (bo λm σ2 r l2=>.tupL l2 (au (by decide)) ?_)))⟩⟩;refine (H.ro r).casesOn λw kn us wt HA C=>?_;exact lE G P HA (op:=op) (ks:=[]) ho.ok.1 (Eo _) (λ_ h=>absurd h DX) hb1 hb2 HA.S2 ((bq.keeps nd eqs).knN _ _ _ _ C) (λi hi=>hOld i _ hi r)
  (λhnew hnk us' hu σ3 t3 H3=>hNew hnew σ3 ((Ro.weak r).trans t3) ⟨w.snoc ho (EZ rfl),_,_,_,(DG (as:=nd) (bs:=[(op,[])])).symm▸H3,C.add (op:=op) (ks:=[]) (λa ha=>HA.R.U.lt ha) (λ_ h=>absurd h DX) (λi op ks h=>(HA.R.B.kids i op ks h).2.2) hu⟩)
  (λhnew m2 hm2=>(C.knS _ hm2).elim λls q=>absurd (EC ((Fe q.2.1)▸q.1)) hnew) k
noncomputable def fy(nd:av)(cls:Nat->Nat)(c:Nat)(v:Int):Bool:=(DV nd.length).any λm=>decide (nd[m]? = some (bK v,[])) && decide (cls m=c)
theorem dp{nd:av}{cls:Nat->Nat}{c:Nat}{v:Int}:fy nd cls c v=true↔∃m,nd[m]? = some (bK v,[])/\cls m=c:=
 ⟨λh=>(Ip.mp h).elim λm q=>bA q.2 λa b=>⟨m,of_decide_eq_true a,of_decide_eq_true b⟩,
  λh=>h.elim λm q=>Ip.mpr ⟨m,D3.mpr (DR.mp q.1).1,DP.mpr ⟨decide_eq_true q.1,decide_eq_true q.2⟩⟩⟩
noncomputable def du(nd:av)(cls:Nat->Nat)(f:Nat->Va)(c:Nat):Option (Nat×Int):=match f c with
 | .num v=>if fy nd cls c v=true then none else some (c,v)
 | _=>none
theorem jd{nd:av}{cls:Nat->Nat}{f:Nat->Va}{c:Nat}(h:∀v,f c≠.num v):du nd cls f c=none:=by
 rw [du];cases q:f c with
 | num v=>exact absurd q (h v)
 | _=>rfl
theorem ia{nd:av}{cls:Nat->Nat}{f:Nat->Va}{c:Nat}{v:Int}(h:f c=.num v):du nd cls f c=if fy nd cls c v=true then none else some (c,v):=by rw [du,h]
noncomputable def bO(nd:av)(cls:Nat->Nat)(f:Nat->Va)(l:List Nat):List (Nat×Int):=l.filterMap (du nd cls f)
theorem oK{nd:av}{cls:Nat->Nat}{f:Nat->Va}{c:Nat}{l:List Nat}(h:du nd cls f c=none):bO nd cls f (l ++ [c])=bO nd cls f l:=by
 rw [bO,J8,List.filterMap_cons_none h];exact Eg _
theorem ib{nd:av}{cls:Nat->Nat}{f:Nat->Va}{c:Nat}{l:List Nat}{x:Nat×Int}(h:du nd cls f c=some x):bO nd cls f (l ++ [c])=bO nd cls f l ++ [x]:=by
 rw [bO,J8,List.filterMap_cons_some h];rfl
noncomputable def cN(nd:av)(x:Nat×Int):PV:=.tup [tm nd x.1,.tup [.str (bK x.2)]]
inductive ic(nd:av)(cls cls1:Nat->Nat)(f:Nat->Va)(c:Nat)(post:List Nat):Prop
 | own:cls1 c=c->(∀x,cls1 x=c->x < nd.length/\cls x=c)->ic nd cls cls1 f c post
 | num (v m):nd[m]? = some (bK v,[])->cls m=c->f (cls1 c)=.num v->(∀y∈post,cls1 c < y)->ic nd cls cls1 f c post
theorem ic.weak{nd:av}{cls cls1:Nat->Nat}{f:Nat->Va}{c:Nat}{post post':List Nat}(h:ic nd cls cls1 f c post)(hp:∀y∈post',y∈post):ic nd cls cls1 f c post':=
 h.casesOn .own λv m h3 h4 h5 h6=>.num v m h3 h4 h5 λy hy=>h6 y (hp y hy)
theorem ic.case{nd:av}{cls cls1:Nat->Nat}{f:Nat->Va}{c:Nat}{v:Int}{post:List Nat}(hR:∀m,nd[m]? = some (bK v,[])->cls m=c->aX (.num v) (f c))(hco:∀x,cls1 (cls x)=cls1 x)(hv:f (cls1 c)=.num v)(h:ic nd cls cls1 f c post) :
 (du nd cls f c=none/\∃m,nd[m]? = some (bK v,[])/\cls1 m=cls1 c)\/(du nd cls f c=some (c,v)/\cls1 c=c/\f c=.num v/\∀(e:av) m,(nd ++ e)[m]? = some (bK v,[])->cls1 m≠c):=by
 refine h.casesOn (λh1 h2=>?_) λv' m g3 g4 g5 g6=>?_
 · rw [h1] at hv;rw [ia hv];by_cases hq:fy nd cls c v=true
   · exact .inl ⟨if_pos hq,(dp.mp hq).imp λm q=>⟨q.1,(hco m).symm.trans (congrArg cls1 q.2)⟩⟩
   · refine .inr ⟨if_neg hq,h1,hv,λe m hm hc=>hq (dp.mpr ⟨m,?_,(h2 m hc).2⟩)⟩;rw [FY (h2 m hc).1] at hm;exact hm
 · have e:=Va.num.inj (g5.symm.trans hv);rw [e] at g3;refine .inl ⟨?_,m,g3,(hco m).symm.trans (congrArg cls1 g4)⟩;by_cases hq:f c=.num v
   · rw [ia hq];exact if_pos (dp.mpr ⟨m,g3,g4⟩)
   · refine jd λu hu=>?_;have h3:=hR m g3 g4;rw [hu] at h3 hq;cases h3 with
     | rfl'=>exact hq rfl
theorem ic.none{nd:av}{cls cls1:Nat->Nat}{f:Nat->Va}{c:Nat}{post:List Nat}(hno:∀v,f (cls1 c)≠.num v)(h:ic nd cls cls1 f c post):du nd cls f c=.none:=
 h.casesOn (λh1 _=>jd (h1▸hno)) λv _ _ _ g5 _=>absurd g5 (hno v)
theorem ic.merge{nd e:av}{cls cls1:Nat->Nat}{f:Nat->Va}{c n1:Nat}{v:Int}{post:List Nat}(hfc:f c=.num v)(hc1:cls1 c=c)
 (hn1:(nd ++ e)[n1]? = some (bK v,[])) (hlt:∀y∈post,c < y) {kept gone:Nat} (hkg:kept < gone) (hcase:kept=cls1 c/\gone=cls1 n1\/kept=cls1 n1/\gone=cls1 c)
 {c':Nat} (hc':c'∈post) (h:ic nd cls cls1 f c' (c::post)):ic nd cls (aO cls1 kept gone) f c' post:=by
 have hcc':=hlt c' hc';rw [hc1] at hcase;refine h.casesOn (λh1 h2=>?_) λv' m' g3 g4 g5 g6=>?_
 · by_cases e1:cls1 n1=c'
   · have q:=h2 n1 e1;rw [e1] at hcase;have hk:kept=c/\gone=c':=hcase.elim id λh=>absurd hkg (h.1▸h.2▸MD hcc');have hj:aO cls1 kept gone c'=c:=(be (h1.trans hk.2.symm)).trans hk.1;rw [FY q.1] at hn1;exact .num v n1 hn1 q.2 (hj.symm▸hfc) (hj.symm▸hlt)
   · have hk:kept≠c':=λe=>hcase.elim (λh=>D1 hcc' (h.1.symm.trans e)) λh=>e1 (h.1.symm.trans e);have hg:c'≠gone:=λe=>hcase.elim (λh=>e1 (h.2.symm.trans e.symm)) λh=>EY hcc' (e.trans h.2);refine .own ((aR (h1.symm▸hg)).trans h1) λx hx=>?_;by_cases e2:cls1 x=gone
     · exact absurd ((be e2).symm.trans hx) hk
     · exact h2 x ((aR e2).symm.trans hx)
 · have hr:=g6 c (.head _);have hj:aO cls1 kept gone c'=cls1 c':=aR λe=>hcase.elim (λh=>MD hr (e▸h.1▸hkg)) λh=>D1 hr (e.trans h.2);exact .num v' m' g3 g4 (hj.symm▸g5) λy hy=>hj.symm▸g6 y (.tail _ hy)
structure dW(σ:aa)(nd:av)(eqs:List (Nat×Nat))(cls:Nat->Nat)(E S n i:Nat)(ks:List Nat)(f:Nat->Va)(tl:List PV):Prop where
 H:cP σ nd eqs cls E S
 K:bv σ n i ks f (cR tl)
 hks:∀c∈ks,c < nd.length
 hS:bj nd eqs n f
 hst:∀c,c < nd.length->cls c=c->nH nd cls n f c
noncomputable def qV(p:al):Prop:=bp p\/cf p
theorem dW.num{σ:aa}{nd:av}{eqs:List (Nat×Nat)}{cls:Nat->Nat}{E S n i:Nat}{ks:List Nat}{f:Nat->Va}{tl:List PV}(R:dW σ nd eqs cls E S n i ks f tl){m c:Nat}{v:Int}(h0:0<=v)(hn:v < (n:Int))(h7:v < 7)
 (hm:nd[m]? = some (bK v,[])) (hc:cls m=c):aX (.num v) (f c):=by
 have:=R.hst (cls m) (R.H.rd.U.lt (DR.mp hm).1) (R.H.rd.U.idem m) m (bK v) [] hm rfl;rw [hc,show bR n (bK v) (([]:List Nat).map λk=>f (cls k))=.num v from by
  show (match numOf (bK v) with | some i=>Va.num (i.fmod n) | none=>.non)=_;rw [(kj h0 h7).2];exact congrArg Va.num (Int.fmod_eq_of_lt h0 hn)] at this
 exact this
theorem BP{σ:aa}{nd:av}(B:d6 σ nd){i j:Nat}{x:Str×List Nat}(hi:nd[i]? = some x)(hj:nd[j]? = some x):i=j:=
 (G1 (DR.mp hi).1 B.nodup).mp (hi.trans hj.symm)
theorem wH{nd e:av}(hnod:(nd ++ e).Nodup)(he:∀x∈e,∃v:Int,0<=v/\v < 7/\x=(bK v,[])):e.length<=7:=
 DM (lz (EV.mp hnod).2.1 (m:=(DV 7).map λ(v:Nat)=>(bK v,[])) λx hx=>(he x hx).elim λv q=>(GF q.1).elim λk e=>
  DO.mpr ⟨k,D3.mpr (EG.mp (e▸q.2.1)),e▸q.2.2.symm⟩) (DQ 7)
theorem qW{c:Cx}(G:Gd c)(P:aD c){σ:aa}{nd:av}{eqs:List (Nat×Nat)}{cls:Nat->Nat}{E S:Nat}(H:bG σ nd eqs cls E S){op:Str}(ho:eP op 0)(hb1:nd.length+1 < 60)(hb2:E+2 < 4000){Q:PV->aa->Prop}
 (hQ:∀(n1:Nat) σ' (e:av),St bp σ σ'->(∀x∈e,x=(op,[]))->bG σ' (nd ++ e) eqs cls (E+1) S->(nd ++ e)[n1]? = some (op,[])->Q (.int (n1:Nat)) σ') (k:Nat):aj c (k+6) .h_put [.ref .heap,.tup [.str op]] σ Q:=by
 have hS:S < 60:=H.casesOn λ_ _ _ _ h _=>h.S2;refine sk G P H ho hb1 hb2 (λi σ' hi hr=>hQ i σ' [] (Ro.weak hr) (λ_ h=>absurd h DX) ?_ ((Eg nd).symm▸hi)) (λhnew σ' t H'=>hQ _ σ' _ t (λ_ h=>DS.mp h) H' (gN _ _)) k;rw [Eg];exact (H.ro hr).weak (E6 E) (EE hb2) (DQ _) hS
theorem km{i:Int}{σ:aa}{Q:PV->aa->Prop}(hi:i.natAbs < 2 ^ 60)(h:Q (.str (bK i)) σ):bC σ Q .str [.int i]:=.str hi h
theorem uS{σ:aa}{p:al}{l:List (PV×PV)}{n:Nat}{Q:PV->aa->Prop}(h:σ p=some (.dict l))(e:l.length=n)(hn:n < 10000)(hQ:Q (.int (n:Nat)) σ):bC σ Q .len [.ref p]:=.lenD h (e▸au hn) (e▸hQ)
theorem bv.tell{σ σ':aa}{n i:Nat}{ks:List Nat}{f:Nat->Va}{told told':List (PV×PV)}(K:bv σ n i ks f told)(u:bL σ .kTold (.dict told') σ'):bv σ' n i ks f told' where
 kp:=(u.ne _ (by nofun)).trans K.kp
 C:=⟨(u.ne _ (by nofun)).trans K.C.1,K.C.2⟩
 vals:=(u.ne _ (by nofun)).trans K.vals
 nodup:=K.nodup
 out:=K.out
 told:=u.at_
 free:=K.free.imp λm q=>⟨q.1,λj hj=>(u.ne _ (by nofun)).trans (q.2 j hj)⟩
 ok:=K.ok
inductive qX(σ:aa)(nd:av)(eqs:List (Nat×Nat))(cls:Nat->Nat)(E:Nat)(S:Nat)(n:Nat)(i:Nat)(ks:List Nat)(f:Nat->Va)(tl:List PV)(p:Nat)(L:List Nat)(post:List Nat)(ρ:af)(σ':aa):Prop
 | mk (pre:List Nat) (e:av) (ps:List (Nat×Nat)) (cls1:Nat->Nat):ρ "self" = some (.ref .keeper)->ρ "many" = some (.int ((bO nd cls f pre).length:Nat))->St qV σ σ'->σ' (.loc p)=some (.list (ai L))->L=pre ++ post->bG σ' (nd ++ e) (eqs ++ ps) cls1 (E+2*pre.length) S->
  bv σ' n i ks f (cR (tl ++ (bO nd cls f pre).map (cN nd)))->(∀x∈e,∃v:Int,0<=v/\v < 7/\x=(bK v,[]))->ps.map (λx=>PV.tup [tm (nd ++ e) x.1,tm (nd ++ e) x.2])=(bO nd cls f pre).map (cN nd)->(∀x,cls1 (cls x)=cls1 x)->(∀c'∈post,ic nd cls cls1 f c' post)->qX σ nd eqs cls E S n i ks f tl p L post ρ σ'
theorem wI{c:Cx}(G:Gd c)(P:aD c){σ:aa}{nd:av}{eqs:List (Nat×Nat)}{cls:Nat->Nat}{E S n i:Nat}{ks:List Nat}{f:Nat->Va}{tl:List PV}(R:dW σ nd eqs cls E S n i ks f tl)
 (hN:nd.length<=50) (hE:E<=1000) (hT:tl.length+nd.length < 200) {Q:PV->aa->Prop}
 (hQ:∀(σ':aa) (e:av) (ps:List (Nat×Nat)) (cls':Nat->Nat) (i':Nat) (ks':List Nat) (f':Nat->Va),St qV σ σ'->e.length<=7->
  ps.map (λx=>PV.tup [tm (nd ++ e) x.1,tm (nd ++ e) x.2])=(bO nd cls f ((DV nd.length).filter λa=>cls a == a)).map (cN nd)->
  dW σ' (nd ++ e) (eqs ++ ps) cls' (E+200) S n i' ks' f' (tl ++ (bO nd cls f ((DV nd.length).filter λa=>cls a == a)).map (cN nd))->
  Q (.int ((bO nd cls f ((DV nd.length).filter λa=>cls a == a)).length:Nat)) σ') (k:Nat) :
 aj c (k+7) .k_fold [.ref .keeper] σ Q:=by
 have H:=R.H;have K:=R.K;refine aw G P .k_fold rfl ⟨_,rfl,_,K.heapA,_,aL H.rd.h rfl rfl,gJ G P H.rd (λσ1 p hr1 hp=>?_) (k+4)⟩;have hLm:∀x∈(DV nd.length).filter (λa=>cls a == a),x < nd.length/\cls x=x:=λx h=>⟨D3.mp (EM.mp h).1,beq_iff_eq.mp (EM.mp h).2⟩;have hLs:((DV nd.length).filter λa=>cls a == a).Pairwise (· < ·):=Fw _ Gk;generalize ((DV nd.length).filter λa=>cls a == a)=L at hp hQ hLm hLs;have hLl:L.length<=50:=DM (aM (hLs.imp λh=>D1 h) λx hx=>(hLm x hx).1) hN;have hC7:=K.C.2.2;refine cz hp (by rw [ah];exact au (DC hLl (by decide))) ?_;refine br (λx:Nat=>.int (x:Int)) (qX σ nd eqs cls E S n i ks f tl p L) (λc0 post ρ σ2 I=>I.casesOn λpre e ps cls1 hs hmany ht hpl eL H2 K2 he hps hco hab=>⟨hpl,_,rfl,λP' hP'=>?_⟩)
  (λρ σ2 I=>I.casesOn λpre e ps cls1 hs hmany ht hpl eL H2 K2 he hps hco hab=>⟨hpl,?_⟩) L _ _
  (.mk [] [] [] cls rfl rfl (Ro.weak hr1) hp rfl (by rw [Eg,Eg];exact H.ok.ro hr1) ((Eg tl).symm▸K.ro hr1) (λ_ h=>absurd h DX) rfl H.rd.U.idem λc' hc'=>
   .own (hLm c' hc').2 λx hx=>⟨Ls λhle=>Fi _ (DC hle ((hx.symm.trans (H.rd.U.out x hle))▸(hLm c' hc').1)),hx⟩)
 · have hc0:=hLm c0 (eL▸D0 _ (.head _));have hpre:pre.length < 50:=by rw [eL,DG] at hLl;exact DI (FN (FB _)) hLl
   have hlt:=(GQ.mp (He.mp (eL▸hLs)).2.1).1;have hN1:(nd ++ e).length<=57:=by rw [DG];exact Gb hN (wH H2.rd.B.nodup he)
   have hNl:c0 < (nd ++ e).length:=by rw [DG];exact DI hc0.1 (Ed _ _)
   have eL2:=eL.trans (Fl pre c0 post);have ab0:=hab c0 (.head _);have hS60:S < 60:=H2.casesOn λ_ _ _ _ h _=>h.S2;have hE1:E+2*pre.length+2 < 4000:=by lia
   have hskip:du nd cls f c0=none->∀{ρ' σ' e'},ρ' "self" = some (.ref .keeper)->ρ' "many" = some (.int ((bO nd cls f pre).length:Nat))->St qV σ σ'->σ' (.loc p)=some (.list (ai L))->bG σ' (nd ++ e') (eqs ++ ps) cls1 (E+2*pre.length+1) S->
    bv σ' n i ks f (cR (tl ++ (bO nd cls f pre).map (cN nd)))->(∀x∈e',∃v:Int,0<=v/\v < 7/\x=(bK v,[]))->ps.map (λx=>PV.tup [tm (nd ++ e') x.1,tm (nd ++ e') x.2])=(bO nd cls f pre).map (cN nd)->P' ρ' σ':=by
    intro hd;rw [← oK (l:=pre) hd];exact λh1 h2 h3 h4 h5 h6 h7 h8=>hP' _ _ (.mk (pre ++ [c0]) _ ps cls1 h1 h2 h3 h4 eL2 (by rw [DG];exact h5.weak (E6 _) hE1 (DQ _) hS60) h6 h7 h8 hco λc' hc'=>(hab c' (.tail _ hc')).weak λy hy=>.tail _ hy)
   refine ⟨_,hs,_,aL K2.kp rfl rfl,_,rfl,mE G P H2.rd K2 hNl ⟨_,rfl,?_⟩ (k+3)⟩;have hno:(∀v,f (cls1 c0)≠.num v)->P' ((ρ.put "c" (.int (c0:Nat))).put "value" (f (cls1 c0)).pv) σ2:=λh=>hskip (ab0.none h) hs hmany ht hpl (H2.weak (E6 _) (EE hE1) (DQ _) hS60) K2 he hps;cases hv:f (cls1 c0) with
   | non=>rw [hv] at hno;exact .no (.mk (iB rfl (hno nofun)))
   | bad=>rw [hv] at hno;exact .str (.mk (iB rfl (hno nofun)))
   | num v=>
    clear hno;have hvok:=K2.ok (cls1 c0) v hv;have hv7:v < 7:=Jf hvok.2 (HZ.mpr hC7);have hvb:v.natAbs < 2 ^ 60:=by clear hskip;lia
    have hcase:=ab0.case (λm=>R.num hvok.1 hvok.2 hv7) hco hv;refine .int (.mk (iT rfl ⟨_,hs,_,K2.heapA,_,aL H2.rd.h rfl rfl,_,rfl,km hvb (qW G P H2 (kj hvok.1 hv7).1 (DC (Ei hN1) (by decide)) hE1 (λn1 σ3 e2 t3 he2 H3 hn1=>?_) k)⟩));rw [Ey] at H3 hn1;have K3:=K2.heap t3;have ht3:St qV σ σ3:=ht.trans (t3.weak λp h=>.inl h);have hpl3:=t3.keepL hpl;have he3:∀x∈e ++ e2,∃v:Int,0<=v/\v < 7/\x=(bK v,[]):=λx hx=>(Eb.mp hx).elim (he x) λh=>⟨v,hvok.1,hv7,he2 x h⟩;have hps3:ps.map (λx=>PV.tup [tm (nd ++ (e ++ e2)) x.1,tm (nd ++ (e ++ e2)) x.2])=(bO nd cls f pre).map (cN nd):=by
     rw [← hps];refine El λx hx=>H2.casesOn λ_ kn us wt _ C=>?_;have h1:=C.held x (D0 _ hx);rw [← Ey,dE _ _ h1.1,dE _ _ h1.2.1]
    have hNl3:c0 < (nd ++ (e ++ e2)).length:=by rw [DG];exact DI hc0.1 (Ed _ _)
    have hn1l:=(DR.mp hn1).1;clear K2 H2 hpl ht t3 he hps he2;refine ⟨_,hs,_,K3.heapA,_,aL H3.rd.h rfl rfl,_,rfl,_,rfl,pq G P H3.rd hNl3 hn1l ?_ (k+3)⟩;refine hcase.elim (λh=>h.2.elim λm q=>?_) λh=>?_
    · have e1:cls1 c0=cls1 n1:=q.2.symm.trans (congrArg cls1 (BP H3.rd.B (iU q.1) hn1));exact .mk (iB (congrArg Ga (beq_iff_eq.mpr e1)) (hskip h.1 hs hmany ht3 hpl3 H3 K3 he3 hps3))
    · have hlk:cls1 c0≠cls1 n1:=λq=>h.2.2.2 _ n1 hn1 (q.symm.trans h.2.1);clear hskip hcase;have htl:(tl ++ (bO nd cls f pre).map (cN nd)).length < 200:=by
       rw [DG,DD];exact DC (EF (DM (GA _ _) (DM (by rw [eL,DG];exact Ed _ _) (DM (aM (hLs.imp λh=>D1 h) λx hx=>(hLm x hx).1) (DQ _)))) _) hT
      have htold:cR (tl ++ (bO nd cls f (pre ++ [c0])).map (cN nd))=cR (tl ++ (bO nd cls f pre).map (cN nd)) ++ [(.str (ae (tl ++ (bO nd cls f pre).map (cN nd)).length),cN nd (c0,v))]:=by
       rw [ib h.1,D4,← Ey];exact uR _ _
      refine .mk (iT (congrArg Ga (beq_eq_false_iff_ne.mpr hlk)) ⟨_,hs,_,K3.toldA,uS K3.told (eZ _) (DH htl (by decide)) (.mk ⟨(DH htl (by decide):_ < 2 ^ 60),au (DH (kl _ htl).2 (by decide)),?_⟩)⟩);refine ⟨_,hs,_,K3.heapA,_,H3.rd.abank,_,aL H3.rd.B.b rfl rfl,_,rfl,oB G P H3.rd.B hNl3 (λσ4 hr4=>?_) (k+4)⟩;have K4:=K3.ro hr4;refine ⟨_,rfl,km hvb ⟨_,hs,_,K4.toldA,_,rfl,gu K4.told (qU _ _) ((eZ _).symm▸au (DH htl (by decide))) (wF htl (DQ _) htl) λσ5 u5=>?_⟩⟩;rw [dE nd _ hc0.1] at u5;have K5:=htold.symm▸K4.tell u5;have t5:St cf σ4 σ5:=u5.st rfl (.inr (.inr (.inl rfl)));have H5:=(H3.ro hr4).keeper t5;have ht5:St qV σ σ5:=ht3.trans ((Ro.weak hr4).trans (t5.weak λp h=>.inr h));have hpl5:=t5.keepL (hr4.keepL hpl3);clear K4 K3 ht3 hpl3 u5;refine ⟨_,hs,_,K5.heapA,_,aL H5.rd.h rfl rfl,_,rfl,_,rfl,_,rfl,qL G P H5 hNl3 hn1l hE1 (λcls2 σ6 r t6 H6 hcs=>hcs.elim (λq=>absurd q.1 hlk) λq=>q.elim λkept q=>q.elim λgone q=>⟨_,hmany,.addI (hP' _ _ ?_)⟩) (k+2)⟩;rw [q.2.2] at H6;refine .mk (pre ++ [c0]) (e ++ e2) (ps ++ [(c0,n1)]) (aO cls1 kept gone) hs ?_ (ht5.trans (t6.weak λp h=>.inl h)) (t6.keepL hpl5) eL2 ?_ (K5.heap t6) he3 ?_ (λx=>gn (hco x)) λc' hc'=>ic.merge h.2.2.1 h.2.1 hn1 hlt q.1 q.2.1 hc' (hab c' (.tail _ hc'))
      · rw [ib h.1,DG (as:=bO nd cls f pre)];rfl
      · rw [DG,← Ey eqs ps];exact H6
      · rw [ib h.1,D4,D4,hps3];refine congrArg (λy=>_ ++ [PV.tup y]) ?_;show [tm (nd ++ (e ++ e2)) c0,tm (nd ++ (e ++ e2)) n1]=[tm nd c0,.tup [.str (bK v)]];rw [dE nd _ hc0.1,eY (λi op' ks h=>(H6.rd.B.kids i op' ks h).2.2) hn1];rfl
 · rw [Eg] at eL;rw [← eL] at hmany H2 K2 hps;have hel:=wH H2.rd.B.nodup he;have hE1:E+2*L.length<=E+200:=EF (IU 2 (DM hLl (by decide:50<=100))) E;have hE2:E+200 < 4000:=DC (Hf hE 200) (by decide);refine ⟨_,hs,_,K2.heapA,_,aL H2.rd.h rfl rfl,jQ G P H2 (by lia) (λcls2 σ3 t3 H3=>?_) (k+1)⟩;refine ⟨_,hs,_,aL (K2.heap t3).kp rfl rfl,iD G P H3 (K2.heap t3) (λc hc=>by rw [DG];exact DI (R.hks c hc) (Ed _ _)) (R.hS.mono λx hx=>D7 _ hx) (λσ4 i' ks' f' t4 K4 hks4 hS4 hst4=>?_) k⟩;exact ⟨_,hmany,hQ σ4 e ps cls2 i' ks' f' (ht.trans ((t3.weak λp h=>.inl h).trans (t4.weak λp h=>.inr h))) hel hps ⟨(H3.keeper t4).casesOn λw kn us HA C=>⟨w,kn,us,HA.weakE hE1 hE2,C⟩,K4,hks4,hS4,hst4⟩⟩
noncomputable def gQ(a:Nat)(σ σ':aa):Prop:=∀p,p≠.loc a->(p.isLoc=false\/σ p≠none)->σ' p=σ p
theorem gQ.refl{a:Nat}{σ:aa}:gQ a σ σ:=λ_ _ _=>rfl
theorem gQ.trans{a:Nat}{σ σ' σ'':aa}(h:gQ a σ σ')(h':gQ a σ' σ''):gQ a σ σ'':=λp hp hq=>
 (h' p hp (hq.imp_right λg=>by rw [h p hp hq];exact g)).trans (h p hp hq)
theorem St.toT{a:Nat}{σ σ':aa}(h:St (λ_=>False) σ σ'):gQ a σ σ':=λp _ hq=>by
 cases e:p.isLoc with
 | false=>exact Ro.at h e
 | true=>exact h.loc p e (hq.resolve_left λq=>EU (e.symm.trans q))
inductive ba(σ:aa)(a b m:Nat):Prop
 | mk (cs:List Nat) (spot:Nat):σ (.loc a)=some (.list [.ref (.loc b),.int (spot:Nat)])->σ (.loc b)=some (.list (ai cs))->a≠b->cs.length<=50->spot<=m->ba σ a b m
theorem ba.st{I:al->Prop}{σ σ':aa}{a b m:Nat}(T:ba σ a b m)(h:St I σ σ'):ba σ' a b m:=T.casesOn λcs spot h1 h2 h3 h4 h5=>⟨cs,spot,h.keepL h1,h.keepL h2,h3,h4,h5⟩
theorem ba.ro{σ σ':aa}{a b m:Nat}(T:ba σ a b m)(h:Ro σ σ'):ba σ' a b m:=T.st h
theorem ba.weak{σ:aa}{a b m m':Nat}(T:ba σ a b m)(h:m<=m'):ba σ a b m':=T.casesOn λcs spot h1 h2 h3 h4 h5=>⟨cs,spot,h1,h2,h3,h4,DM h5 h⟩
theorem ba.up{σ σ':aa}{a b m n:Nat}{o:PO}(T:ba σ a b m)(ha:n≠a)(hb:n≠b)(u:bL σ (.loc n) o σ'):ba σ' a b m:=
 T.casesOn λcs spot h1 h2 h3 h4 h5=>⟨cs,spot,(u.ne _ λe=>ha (al.loc.inj e).symm).trans h1,(u.ne _ λe=>hb (al.loc.inj e).symm).trans h2,h3,h4,h5⟩
theorem ba.ne{σ:aa}{a b m n:Nat}(T:ba σ a b m)(hn:σ (.loc n)=none):n≠a/\n≠b:=
 T.casesOn λcs spot h1 h2 _ _ _=>⟨λe=>bh h1 hn (congrArg _ e.symm),λe=>bh h2 hn (congrArg _ e.symm)⟩
theorem BQ{σ:aa}{p:al}{l:List PV}{a:Nat}{x:PV}{Q:aa->Prop}(h:σ p=some (.list l))(ha:a < 2 ^ 60)(hl:a < l.length)(hQ:∀σ',bL σ p (.list (l.set a x)) σ'->Q σ'):eh σ Q x (.ref p) (.int (a:Nat)):=zh h ha hl (hQ _ (upd _ _ _))
theorem dH{c:Cx}(G:Gd c)(P:aD c){σ:aa}{a b m many:Nat}(T:ba σ a b m)(hm:m < 100000)(hmany:0 < many){Q:PV->aa->Prop}
 (hQ:∀(v:Nat) σ',v < many->gQ a σ σ'->ba σ' a b (m+1)->Q (.int (v:Nat)) σ') (k:Nat):aj c (k+1) .l_dip [.ref (.loc a),.int (many:Nat)] σ Q:=by
 refine aw G P .l_dip rfl (T.casesOn λcs spot h1 h2 hab hcs hsp=>⟨_,rfl,[.ref (.loc b),.int (spot:Nat)],congrArg (·.bind lP) h1,rfl,_,rfl,.addI ⟨_,rfl,BQ (a:=1) h1 (by decide) (D6 1) λσ' u=>?_⟩⟩);have h3:σ' (.loc b)=some (.list (ai cs)):=(u.ne _ λe=>hab (al.loc.inj e).symm).trans h2;have h0:(0:Int) < (many:Nat):=EG.mpr hmany;have hm0:((many:Nat):Int)≠0:=Lf h0;have fin:∀x:Int,Q (.int (x.fmod many)) σ':=λx=>(GF (Ig x h0)).elim λv e=>by
  have q2:=KL x h0;rw [e] at q2 ⊢;exact hQ v _ (EG.mp q2) (λp hp _=>u.ne p hp) ⟨cs,spot+1,u.at_,h3,hab,hcs,Ei hsp⟩
 refine ⟨_,rfl,_,rfl,cL h3 (ah _) (DC hcs (by decide)) (sT ?_)⟩;have hs:spot < 100000:=DC hsp hm;clear hQ h1 h2 u hm0 T hsp hm;by_cases e:spot < cs.length
 · exact iT (decide_eq_true (EG.mpr e)) ⟨_,rfl,_,rfl,bH h3 (DH hs (by decide)) (dC (DW e)) ⟨_,rfl,.mod (Lf h0) (fin _)⟩⟩
 · exact iB (decide_eq_false λh=>e (EG.mp h)) ⟨_,rfl,.mul (by decide) (by clear fin h3 h0;lia) ⟨_,rfl,.mul (by clear fin h3 h0;lia) (by clear fin h3 h0;lia) ⟨_,rfl,.mul (by decide) (by clear fin h3 h0;lia) (.addI (.addI (.mod (by decide) ⟨_,rfl,.mod (Lf h0) (fin _)⟩)))⟩⟩⟩
noncomputable def pL:List Str:=[oX,oY,Dy "0",Dy "1",Dy "2",Dy "-1",Dy "9",Dy "40"]
noncomputable def CX:List PV:=pL.map .str
theorem wJ{v:Nat}(h:v < 8):∃op,CX[v]? = some (.str op)/\eP op 0:=by
 have a:pL.all (λo=>decide (o∈[oX,oY] ++ nums.map (·.1)))=true:=by decide +kernel
 have h':v < pL.length:=h;refine ⟨pL[v],(Ef ..).trans (congrArg (Mc PV.str) (DW h')),.inl ⟨rfl,?_⟩⟩;exact (Eb.mp (of_decide_eq_true (Et.mp a _ (E9 h')))).elim (λh=>(D5.mp h).imp_right λh=>.inl (DS.mp h)) λh=>.inr (.inr h)
theorem zv{c:Cx}(G:Gd c)(P:aD c){σ:aa}{a b m:Nat}(T:ba σ a b m)(hm:m < 100000){Q:PV->aa->Prop}(k:Nat){R:PV->aa->Prop}
 (hR:∀n σ1,(aj c (k+1) .l_dip [.ref (.loc a),.int (8:Nat)] σ1 λu σ2=>eg σ2 Q (.ref (.loc n)) u)->R (.ref (.loc n)) σ1) (hQ:∀op σ',eP op 0->gQ a σ σ'->ba σ' a b (m+1)->Q (.str op) σ'):aj c (k+1) .l_leaves [] σ R:=
 aw G P .l_leaves rfl (dR λn σ1 hn u=>hR n σ1 (dH G P (T.up (T.ne hn).1 (T.ne hn).2 u) hm (many:=8) (by decide) (λv σ' hv ht T2=>(wJ hv).elim λop q=>
  bH ((ht _ (λe=>(T.ne hn).1 (al.loc.inj e)) (.inr λh=>nomatch u.at_.symm.trans h)).trans u.at_) (DH hv (by decide)) q.1 (hQ op σ' q.2 ((St.toT (St.refl.upL hn u)).trans ht) T2)) k))
theorem wK{c:Cx}(G:Gd c)(P:aD c){a b:Nat}(k:Nat):∀(d m:Nat) (σ:aa) (Q:PV->aa->Prop),ba σ a b m->m+2 ^ (d+2) < 100000->
 (∀t s σ',iC (d+1) t s->s+1<=2 ^ (d+1)->gQ a σ σ'->ba σ' a b (m+2 ^ (d+2) - 1)->Q t σ')->aj c (k+d+2) .l_term [.ref (.loc a),.int (d:Nat)] σ Q:=by
 intro d;induction d with
 | zero=>
  intro m σ Q T hm hQ;refine aw G P .l_term rfl ⟨_,rfl,.gt (iB (decide_eq_false (Mp 0)) ⟨_,rfl,.lt (iT rfl (zv G P T (DC (Ed _ _) hm) k (λn σ1 h=>⟨_,rfl,h⟩) λop σ' h ht T2=>?_))⟩)⟩;exact hQ _ 1 σ' ⟨op,[],rfl,h,rfl,λ_ h=>absurd h DX⟩ (DQ 2) ht (T2.weak (EF (by decide:1<=3) m))
 | succ d ih=>
  intro m σ Q T hm hQ;have h2:2 ^ (d+2)=2*2 ^ (d+1):=Lg _ _;have h3:2 ^ (d+1+2)=4*2 ^ (d+1):=by rw [Nat.pow_add 2 (d+1) 2,Lg]
  have h1:2<=2 ^ (d+1):=(IJ (by decide) (Ei (Eo d)):2 ^ 1<=2 ^ (d+1));rw [h2] at ih hQ;rw [h3] at hm hQ;clear h2 h3;generalize 2 ^ (d+1)=N at ih hQ hm h1;have ed:(((d+1:Nat):Int) - 1)=((d:Nat):Int):=Jc (d:Int) 1;show aj c (k+d+2+1) .l_term _ σ Q;refine aw G P .l_term rfl ⟨_,rfl,.gt (iT (decide_eq_true (EG.mpr (FB d))) ⟨_,rfl,dH G P T (by lia) (many:=6) (by decide) (λway σ1 hway ht1 T1=>⟨_,rfl,sT ?_⟩) (k+d+1)⟩)⟩;by_cases e2:way < 2
  · exact iT (decide_eq_true (EG.mpr e2)) (zv G P T1 (by lia) (k+d+1) (λn σ1 h=>⟨_,rfl,h⟩) λop σ' h ht T2=>hQ _ 1 σ' ⟨op,[],rfl,h,rfl,λ_ h=>absurd h DX⟩ (DM h1 (Nat.le_mul_of_pos_left N (by decide))) (ht1.trans ht) (T2.weak (by lia)))
  refine iB (decide_eq_false λh=>e2 (EG.mp h)) ⟨_,rfl,_,rfl,.sub ?_⟩;rw [ed];refine ih (m+1) σ1 _ T1 (by lia) λt s σ2 ht hs hts T2=>⟨_,rfl,eW (b:=2) ?_⟩;by_cases e3:way=2
  · exact iT (beq_iff_eq.mpr e3) ⟨_,rfl,hQ _ (s+1) σ2 ⟨gO,[(t,s)],rfl,.inr (.inl ⟨rfl,rfl⟩),rfl,λx hx=>(DS.mp hx).symm▸ht⟩ (by lia) (ht1.trans hts) (T2.weak (by lia))⟩
  refine iB (beq_eq_false_iff_ne.mpr e3) ⟨_,rfl,.mod (by decide) ?_⟩;rw [show ((way:Nat):Int).fmod 2=((way % 2:Nat):Int) from (Hg _ (by decide)).trans rfl];have key:∀op:Str,(op=dG\/op=fZ)->aj c (k+d+2) .l_term [.ref (.loc a),.int (d:Nat)] σ2 λv σ1=>Q (.tup [.str op,t,v]) σ1:=λop hop=>
   ih (m+1+2*N - 1) σ2 _ T2 (by lia) λt' s' σ3 ht' hs' hts' T3=>hQ _ (s+s'+1) σ3 ⟨op,[(t,s),(t',s')],rfl,.inr (.inr ⟨rfl,hop⟩),rfl,λx hx=>(D5.mp hx).elim (λe=>e.symm▸ht) λh=>(DS.mp h).symm▸ht'⟩
    (by lia) (ht1.trans (hts.trans hts')) (T3.weak (by lia))
  refine eW (b:=1) ?_;by_cases e5:way % 2=1
  · exact iT (beq_iff_eq.mpr e5) ⟨_,rfl,_,rfl,_,rfl,.sub (ed.symm▸key dG (.inl rfl))⟩
  · exact iB (beq_eq_false_iff_ne.mpr e5) ⟨_,rfl,_,rfl,_,rfl,.sub (ed.symm▸key fZ (.inr rfl))⟩
inductive jW:PV->Prop
 | mk {op l}:Ff op=true->(∀x∈l,jW x)->jW (.tup (.str op::l))
theorem jX{l:List PV}(h:∀x∈l,plain x=true):plains l=true:=by
 induction l with
 | nil=>rfl
 | cons x r ih=>exact DP.mpr ⟨h x (.head _),ih λy hy=>h y (.tail _ hy)⟩
theorem wL{l:List PV}(h:∀x∈l,cY x):fJ l:=by
 induction l with
 | nil=>trivial
 | cons x r ih=>exact ⟨h x (.head _),ih λy hy=>h y (.tail _ hy)⟩
theorem wM{l l':List PV}(h:∀x∈l,∀y∈l',cZ x y):eR l l':=by
 induction l generalizing l' with
 | nil=>cases l' with | _=>trivial
 | cons x r ih=>cases l' with
  | nil=>trivial
  | cons y r'=>exact ⟨h x (.head _) y (.head _),ih λz hz w hw=>h z (.tail _ hz) w (.tail _ hw)⟩
theorem mF{v:PV}(h:jW v):cY v/\plain v=true:=by
 induction h with
 | mk ho hl ih=>exact ⟨⟨trivial,wL λx hx=>(ih x hx).1⟩,DP.mpr ⟨ho,jX λx hx=>(ih x hx).2⟩⟩
theorem wN{v u:PV}(h:jW v)(h':jW u):cZ v u:=by
 induction h generalizing u with
 | mk _ hl ih=>cases h' with
  | mk _ hl'=>exact ⟨⟨rfl,rfl⟩,wM λx hx y hy=>ih x hx (hl' y hy)⟩
structure bP(nd:av):Prop where
 w:Wf nd
 kid:∀(i:Nat) (op:Str) (ks:List Nat),nd[i]? = some (op,ks)->∀k∈ks,k < i
 nodup:nd.Nodup
 small:nd.length < 60
theorem bG.nd{σ:aa}{nd:av}{eqs:List (Nat×Nat)}{cls:Nat->Nat}{E S:Nat}(H:bG σ nd eqs cls E S):bP nd:=
 ⟨H.casesOn λw _ _ _ _ _=>w,λi op ks h=>(H.rd.B.kids i op ks h).2.2,H.rd.B.nodup,H.rd.B.small⟩
theorem bP.op{nd:av}(N:bP nd){i:Nat}{op:Str}{ks:List Nat}(h:nd[i]? = some (op,ks)):eP op ks.length:=N.w.1 _ (EC h)
theorem bP.get{nd:av}{i:Nat}(h:i < nd.length):∃op ks,nd[i]? = some (op,ks):=⟨_,_,DW h⟩
theorem bP.tm{nd:av}(N:bP nd)(i:Nat)(hi:i < nd.length):jW (tm nd i):=by
 induction i using LO with
 | ind i ih=>
  refine (bP.get hi).elim λop q=>q.elim λks h=>?_;rw [eY N.kid h];exact .mk (gP (N.op h)).1 λx hx=>(DO.mp hx).elim λy q=>q.2▸ih y (N.kid i op ks h y q.1) (DH (N.kid i op ks h y q.1) hi)
theorem uT{α β:Type}{f:α->β}{l l':List α}(h:∀x∈l,∀y∈l',f x=f y->x=y)(e:l.map f=l'.map f):l=l':=by
 induction l generalizing l' with
 | nil=>exact (Gf.mp e.symm).symm
 | cons x r ih=>cases l' with
  | nil=>exact nomatch e
  | cons y r'=>rw [h x (.head _) y (.head _) (ES e).1,ih (λz hz w hw=>h z (.tail _ hz) w (.tail _ hw)) (ES e).2]
theorem bP.inj{nd:av}(N:bP nd)(i j:Nat)(hi:i < nd.length)(hj:j < nd.length)(e:Mine.tm nd i=Mine.tm nd j):i=j:=by
 induction i using LO generalizing j with
 | ind i ih=>
  refine (bP.get hi).elim λop q=>q.elim λks h=>(bP.get hj).elim λop' q=>q.elim λls h'=>?_;rw [eY N.kid h,eY N.kid h'] at e;have e2:=ES (PV.tup.inj e);rw [PV.str.inj e2.1,uT (λx hx y hy e=>ih x (N.kid i _ ks h x hx) y (DH (N.kid i _ ks h x hx) hi) (DH (N.kid j op' ls h' y hy) hj) e) e2.2] at h;exact (G1 hi N.nodup).mp (h.trans h'.symm)
theorem bP.depth{nd:av}(N:bP nd){i:Nat}(hi:i < nd.length):aK (Mine.tm nd i)<=8:=DM (N.w.2 i hi) (by decide)
section
variable {key:Nat->PV} {l:List Nat}
theorem ym(hn:l.Nodup)(hi:∀x∈l,∀y∈l,key x=key y->x=y):(l.map key).Nodup:=by
 rw [Mf,E5];exact hn.imp_of_mem λha hb hab e=>hab (hi _ ha _ hb e)
theorem BS{g:Nat->PV}{a:Nat}(hn:l.Nodup)(hi:∀x∈l,∀y∈l,key x=key y->x=y)(ha:a∈l):aB (l.map λx=>(key x,g x)) (key a)=some (g a):=
 cG (by rw [Ea];exact ym hn hi) (DO.mpr ⟨a,ha,rfl⟩)
theorem BU{g:Nat->PV}{a:Nat}{y:PV}(hn:l.Nodup)(hi:∀x∈l,∀y∈l,key x=key y->x=y)(h:a∈l):bB (l.map λx=>(key x,g x)) (key a) y=l.map λx=>(key x,if x=a then y else g x):=by
 induction l with
 | nil=>exact absurd h DX
 | cons x r ih=>
  have hn:=EO.mp hn;rw [E1,bB,E1];by_cases e:x=a
  · rw [if_pos e,e,aJ,if_pos rfl];exact congrArg (_::·) (El λz hz=>by rw [if_neg λq:z=a=>hn.1 ((q.trans e.symm)▸hz)])
  · rw [if_neg e,aC λq=>e (hi x (.head _) a h q),if_neg DY,ih hn.2 (λx hx y hy=>hi x (.tail _ hx) y (.tail _ hy)) ((D5.mp h).resolve_left λq=>e q.symm)]
end
noncomputable def lD(nd:av)(ae:Nat->Nat):List (PV×PV):=(DV nd.length).map λk=>(tm nd k,.int (ae k:Nat))
theorem kq{nd:av}(N:bP nd){ae:Nat->Nat}{v:PV}(hv:jW v)(hd:aK v<=8):DK (lD nd ae) v:=
 ⟨(mF hv).1,hd,λkv h=>(DO.mp h).elim λk q=>q.2▸⟨wN (N.tm k (D3.mp q.1)) hv,N.depth (D3.mp q.1)⟩⟩
theorem bP.injR{nd:av}(N:bP nd):∀x∈DV nd.length,∀y∈DV nd.length,Mine.tm nd x=Mine.tm nd y->x=y:=λx hx y hy=>N.inj x y (D3.mp hx) (D3.mp hy)
theorem fV{nd:av}(N:bP nd){ae:Nat->Nat}{k:Nat}(hk:k < nd.length):aB (lD nd ae) (tm nd k)=some (.int (ae k:Nat)):=
 BS (key:=tm nd) (g:=λk=>.int (ae k:Nat)) F8 N.injR (D3.mpr hk)
theorem BV{nd:av}(N:bP nd){ae:Nat->Nat}{k v:Nat}(hk:k < nd.length):bB (lD nd ae) (tm nd k) (.int (v:Nat))=lD nd λx=>if x=k then v else ae x:=by
 refine (BU (key:=tm nd) (g:=λk=>.int (ae k:Nat)) (a:=k) (y:=.int (v:Nat)) F8 N.injR (D3.mpr hk)).trans (El λx _=>?_);by_cases e:x=k
 · rw [if_pos e];exact congrArg (λi:Nat=>(tm nd x,PV.int i)) (if_pos e).symm
 · rw [if_neg e];exact congrArg (λi:Nat=>(tm nd x,PV.int i)) (if_neg e).symm
theorem lJ{nd:av}{ae lab':Nat->Nat}(h:∀k,k < nd.length->ae k=lab' k):lD nd ae=lD nd lab':=El λx hx=>by rw [h x (D3.mp hx)]
theorem yn{d:List (PV×PV)}{x y:PV}(h:aB d x=some y):(x,y)∈d:=by
 induction d with
 | nil=>exact nomatch h
 | cons kv r ih=>
  have h:(if aG kv.1 x=true then some kv.2 else aB r x)=some y:=h;by_cases e:aG kv.1 x=true
  · rw [if_pos e] at h;rw [← bg.mp e,← DN h];exact .head _
  · rw [if_neg e] at h;exact .tail _ (ih h)
theorem d7{α:Type}{chk:aa->Prop}{bnd:PV->Option af}{tst:af->aa->(Bool->aa->Prop)->Prop}{elt:af->aa->(PV->aa->Prop)->Prop}{Q:List PV->aa->Prop}{σ:aa}{l:List α}
 (key:α->PV) (f:α->PV) (hc:∀σ',Ro σ σ'->chk σ') (hl:l.length < ay)
 (h:∀a∈l,∃ρ,bnd (key a)=some ρ/\∀σ',Ro σ σ'->∀(P1:PV->aa->Prop) (P0:aa->Prop),(∀σ'',Ro σ σ''->P1 (f a) σ'')->tst ρ σ' λb σ1=>if b=true then elt ρ σ1 P1 else P0 σ1)
 (hQ:∀σ',Ro σ σ'->Q (l.map f) σ'):cn chk bnd tst elt (l.map key) [] σ Q:=
 i6 key (λr acc σ'=>Ro σ σ'/\∃pre,l=pre ++ r/\acc=pre.map f)
  (λy r acc σ' q=>q.2.elim λpre e=>(h y (e.1▸D0 _ (.head _))).elim λρ p=>⟨hc _ q.1,by rw [e.2,DD];exact DC (by rw [e.1,DG];exact Ed _ _) hl,ρ,p.1,λP hP=>
   p.2 σ' q.1 _ _ λσ'' hr'=>hP _ _ ⟨hr',pre ++ [y],e.1.trans (Fl pre y r),by rw [D4,e.2];rfl⟩⟩)
  (λacc σ' q=>q.2.elim λpre e=>⟨hc _ q.1,by rw [e.2,← (e.1.trans (Eg pre))];exact hQ _ q.1⟩) l [] σ ⟨St.refl,[],rfl,rfl⟩
theorem bL.trans{σ σ' σ'':aa}{p:al}{o o':PO}(u:bL σ p o σ')(v:bL σ' p o' σ''):bL σ p o' σ'':=⟨v.at_,λq h=>(v.ne q h).trans (u.ne q h)⟩
structure dS(nd:av)(eqs:List (Nat×Nat))(ae:Nat->Nat):Prop where
 sound:∀a b,a < nd.length->b < nd.length->ae a=ae b->CC nd eqs a b
 idem:∀a,a < nd.length->ae a < nd.length/\ae (ae a)=ae a
structure fG(nd:av)(eqs:List (Nat×Nat))(ae:Nat->Nat):Prop where
 held:∀x∈eqs,ae x.1=ae x.2
 cong:∀(i j:Nat) (op:Str) (ks ls:List Nat),nd[i]? = some (op,ks)->nd[j]? = some (op,ls)->ks.map ae=ls.map ae->ae i=ae j
theorem wO{f:Nat->Nat}{l l':List Nat}(hl:l.length=l'.length)(h:∀(p a b:Nat),l[p]? = some a->l'[p]? = some b->f a=f b):l.map f=l'.map f:=by
 refine G5 λp=>?_;rw [Ef,Ef];cases e:l[p]? with
 | none=>rw [E8 (hl▸Jn.mp e)]
 | some a=>
  have h':=DW (hl▸(DR.mp e).1:p < l'.length);rw [h'];exact congrArg some (h p a _ e h')
theorem fG.closed{nd:av}{eqs:List (Nat×Nat)}{ae:Nat->Nat}(h:fG nd eqs ae)(he:∀x∈eqs,x.1 < nd.length/\x.2 < nd.length):gM nd eqs λa b=>a=b\/(a < nd.length/\b < nd.length/\ae a=ae b) where
 refl:=λ_=>.inl rfl
 symm:=λh=>h.imp JK λh=>⟨h.2.1,h.1,h.2.2.symm⟩
 trans:=λh h'=>h.elim (λe=>e▸h') λg=>.inr (h'.elim (λe=>e▸g) λg'=>⟨g.1,g'.2.1,g.2.2.trans g'.2.2⟩)
 held:=λx hx=>.inr ⟨(he x hx).1,(he x hx).2,h.held x hx⟩
 cong:=λhi hj ha=>.inr ⟨(DR.mp hi).1,(DR.mp hj).1,h.cong _ _ _ _ _ hi hj (wO ha.1 λp a b hp hq=>(ha.2 p a b hp hq).elim (congrArg ae) λg=>g.2.2)⟩
theorem fG.iff{nd:av}{eqs:List (Nat×Nat)}{ae:Nat->Nat}(h:fG nd eqs ae)(h':dS nd eqs ae)(he:∀x∈eqs,x.1 < nd.length/\x.2 < nd.length){a b:Nat}(ha:a < nd.length)(hb:b < nd.length):ae a=ae b↔CC nd eqs a b:=
 ⟨h'.sound a b ha hb,λhc=>(hc _ (h.closed he)).elim (congrArg ae) λg=>g.2.2⟩
theorem dS.relab{nd:av}{eqs:List (Nat×Nat)}{ae:Nat->Nat}(h:dS nd eqs ae){one other:Nat}(h1:one < nd.length)(h2:other < nd.length)(hc:CC nd eqs one other)(hne:ae one≠ae other):dS nd eqs (aO ae (ae other) (ae one)) where
 sound:=λa b ha hb e=>by
  by_cases e1:ae a=ae one
  · rw [be e1] at e;have q1:=h.sound a one ha h1 e1;by_cases e2:ae b=ae one
    · exact q1.tr (h.sound b one hb h1 e2).sym
    · exact q1.tr (hc.tr (h.sound other b h2 hb (e.trans (aR e2))))
  · rw [aR e1] at e;by_cases e2:ae b=ae one
    · exact (h.sound a other ha h2 (e.trans (be e2))).tr (hc.sym.tr (h.sound b one hb h1 e2).sym)
    · exact h.sound a b ha hb (e.trans (aR e2))
 idem:=λa ha=>by
  have q:=h.idem a ha;have q':=h.idem other h2;by_cases e1:ae a=ae one
  · rw [be e1,aR (q'.2.symm▸Km hne)];exact q'
  · rw [aR e1,aR (q.2.symm▸e1)];exact q
theorem dS.less{nd:av}{eqs:List (Nat×Nat)}{ae:Nat->Nat}(h:dS nd eqs ae){one other:Nat}(h1:one < nd.length)(h2:other < nd.length)(hne:ae one≠ae other):cp nd.length (aO ae (ae other) (ae one)) < cp nd.length ae:=by
 have q:=h.idem one h1;have q':=h.idem other h2;refine lz (l:=ae one::(DV nd.length).filter λa=>aO ae (ae other) (ae one) a == a) (m:=(DV nd.length).filter λa=>ae a == a) (EO.mpr ⟨λhm=>?_,Fw _ F8⟩) λx hx=>?_
 · exact hne (beq_iff_eq.mp ((congrArg (· == ae one) (be q.2)).symm.trans (EM.mp hm).2)).symm
 · rw [EM,D3,beq_iff_eq];refine (D5.mp hx).elim (λe=>e▸q) λhx=>?_;rw [EM,D3,beq_iff_eq] at hx;refine ⟨hx.1,?_⟩;by_cases e:ae x=ae one
   · have:=(be e).symm.trans hx.2;exact absurd (e.symm.trans (this▸q'.2)) hne
   · exact (aR e).symm.trans hx.2
noncomputable def d8(nd:av)(eqs:List (Nat×Nat))(ae:Nat->Nat)(sn:List ((Str×List Nat)×Nat)):Prop:=
 ∀x∈sn,∃ks,nd[x.2]? = some (x.1.1,ks)/\ks.length=x.1.2.length/\∀(p a L:Nat),ks[p]? = some a->x.1.2[p]? = some L->∀t,t < nd.length->ae t=L->CC nd eqs t a
theorem d8.relab{nd:av}{eqs:List (Nat×Nat)}{ae:Nat->Nat}{sn:List ((Str×List Nat)×Nat)}(h:d8 nd eqs ae sn)(hl:dS nd eqs ae){one other:Nat}(h1:one < nd.length)(h2:other < nd.length)(hc:CC nd eqs one other) :
 d8 nd eqs (aO ae (ae other) (ae one)) sn:=λx hx=>(h x hx).imp λks q=>⟨q.1,q.2.1,λp a L ha hL t ht e=>by
 by_cases e1:ae t=ae one
 · exact (hl.sound t one ht h1 e1).tr (hc.tr (q.2.2 p a L ha hL other h2 ((be e1).symm.trans e)))
 · exact q.2.2 p a L ha hL t ht ((aR e1).symm.trans e)⟩
theorem d8.hit{nd:av}{eqs:List (Nat×Nat)}{ae:Nat->Nat}{sn:List ((Str×List Nat)×Nat)}(h:d8 nd eqs ae sn)(hkid:∀(i:Nat) (op:Str) (ks:List Nat),nd[i]? = some (op,ks)->∀k∈ks,k < i){t o:Nat}{op:Str}{ks:List Nat}(ht:nd[t]? = some (op,ks))(ho:((op,ks.map ae),o)∈sn):o < nd.length/\CC nd eqs t o:=
 (h _ ho).elim λls q=>⟨(DR.mp q.1).1,(CC.closed nd eqs).cong ht q.1 ⟨((q.2.1.trans (DD _)).symm),λp a b ha hb=>
  q.2.2 p b (ae a) hb (by rw [Ef,ha];rfl) a (DH (hkid t op ks ht a (EC ha)) (DR.mp ht).1) rfl⟩⟩
theorem d8.snoc{nd:av}{eqs:List (Nat×Nat)}{ae:Nat->Nat}{sn:List ((Str×List Nat)×Nat)}(h:d8 nd eqs ae sn)(hl:dS nd eqs ae)(hkid:∀(i:Nat) (op:Str) (ks:List Nat),nd[i]? = some (op,ks)->∀k∈ks,k < i){t:Nat}{op:Str}{ks:List Nat}(ht:nd[t]? = some (op,ks)):d8 nd eqs ae (sn ++ [((op,ks.map ae),t)]):=λx hx=>
 (Eb.mp hx).elim (h x) λhx=>by
  rw [DS.mp hx];refine ⟨ks,ht,(DD _).symm,λp a L ha hL u hu e=>?_⟩;have hL:(ks.map ae)[p]? = some L:=hL;rw [Ef,ha] at hL;exact hl.sound u a hu (DH (hkid t op ks ht a (EC ha)) (DR.mp ht).1) (e.trans (DN hL).symm)
@[reducible] noncomputable def wQ:Ss:=
 (.cons (.ite (.cmp (.sub (.var "labels" ⟨326,15,326,21⟩) (.var "one" ⟨326,22,326,25⟩) ⟨326,15,326,26⟩) .NotEq (.sub (.var "labels" ⟨326,30,326,36⟩) (.var "other" ⟨326,37,326,42⟩) ⟨326,30,326,43⟩) ⟨326,15,326,43⟩)
  (.cons (.asgs [(.name "gone" ⟨327,16,327,20⟩),(.name "kept" ⟨327,22,327,26⟩),(.name "is_new" ⟨327,28,327,34⟩)] 0 ⟨327,16,327,34⟩ (.tup (.cons (.sub (.var "labels" ⟨327,38,327,44⟩) (.var "one" ⟨327,45,327,48⟩) ⟨327,38,327,49⟩) (.cons (.sub (.var "labels" ⟨327,51,327,57⟩) (.var "other" ⟨327,58,327,63⟩) ⟨327,51,327,64⟩) (.cons (.cst (.bool true) 0 ⟨327,66,327,70⟩) .nil))) 0 ⟨327,37,327,71⟩) ⟨327,16,327,71⟩)
  (.cons (.for (.name "t" ⟨328,20,328,21⟩) (.e (.var "terms" ⟨328,25,328,30⟩))
   (.cons (.asg (.sub (.var "labels" ⟨329,20,329,26⟩) (.var "t" ⟨329,27,329,28⟩) ⟨329,20,329,29⟩) (.ife (.cmp (.sub (.var "labels" ⟨329,40,329,46⟩) (.var "t" ⟨329,47,329,48⟩) ⟨329,40,329,49⟩) .Eq (.var "gone" ⟨329,53,329,57⟩) ⟨329,40,329,57⟩) (.var "kept" ⟨329,32,329,36⟩) (.sub (.var "labels" ⟨329,63,329,69⟩) (.var "t" ⟨329,70,329,71⟩) ⟨329,63,329,72⟩) ⟨329,32,329,72⟩) ⟨329,20,329,72⟩)
  .nil) ⟨328,16,329,72⟩)
  .nil))
   .nil ⟨326,12,329,72⟩)
  .nil)
theorem Dq{i j:Nat}{σ:aa}{K:Bool->Prop}(h:K (decide (i=j))):bc σ K .Eq (.int (i:Nat)) (.int (j:Nat)):=eW h
inductive oL(σ:aa)(ρ:af)(nd:av)(ae:Nat->Nat)(m1:Nat)(o1:Nat)(o2:Nat)(post:List Nat)(ρ':af)(σ':aa):Prop
 | mk (pre:List Nat):(∀x,x≠"gone"->x≠"kept"->x≠"is_new"->x≠"t"->ρ' x=ρ x)->ρ' "is_new" = some (.bool true)->ρ' "gone" = some (.int (ae o1:Nat))->ρ' "kept" = some (.int (ae o2:Nat))->DV nd.length=pre ++ post->
  bL σ (.loc m1) (.dict (lD nd λx=>if x∈pre then aO ae (ae o2) (ae o1) x else ae x)) σ'->oL σ ρ nd ae m1 o1 o2 post ρ' σ'
theorem Al{C:CP}{k:Nat}{σ:aa}{ρ:af}{nd:av}{ae:Nat->Nat}{a m1 o1 o2:Nat}(N:bP nd)(ha:σ (.loc a)=some (.list ((DV nd.length).map (tm nd))))(hl:σ (.loc m1)=some (.dict (lD nd ae)))(hne:a≠m1)
 (r1:ρ "terms" = some (.ref (.loc a))) (r2:ρ "labels" = some (.ref (.loc m1))) (r3:ρ "one" = some (tm nd o1)) (r4:ρ "other" = some (tm nd o2)) (h1:o1 < nd.length) (h2:o2 < nd.length) {Qn:af->aa->Prop} {Qr:PV->aa->Prop}
 (hE:ae o1=ae o2->Qn ρ σ)
 (hN:ae o1≠ae o2->∀(ρ':af) σ',(∀x,x≠"gone"->x≠"kept"->x≠"is_new"->x≠"t"->ρ' x=ρ x)->ρ' "is_new" = some (.bool true)->bL σ (.loc m1) (.dict (lD nd (aO ae (ae o2) (ae o1)))) σ'->Qn ρ' σ') :
 eC C k wQ ρ σ Qn Qr:=by
 have hdk:∀{ae:Nat->Nat} {o:Nat},o < nd.length->DK (lD nd ae) (tm nd o):=λh=>kq N (N.tm _ h) (N.depth h);have hlen:nd.length < 10000:=DH N.small (by decide);have hg:∀{o},o < nd.length->aB (lD nd ae) (tm nd o)=some (.int (ae o:Nat)):=λh=>fV N h;refine ⟨_,r2,_,r3,bz hl (hdk h1) (hg h1) ⟨_,r2,_,r4,bz hl (hdk h2) (hg h2) (fN ?_)⟩⟩;by_cases e:ae o1=ae o2
 · exact iB (bne_eq_false_iff_eq.mpr e) (hE e)
 refine iT (bne_iff_ne.mpr e) ⟨_,r2,_,r3,bz hl (hdk h1) (hg h1) ⟨_,r2,_,r4,bz hl (hdk h2) (hg h2) ⟨_,rfl,rfl,_,r1,cz ha (by rw [DD,Ez];exact au hlen) ?_⟩⟩⟩;have hab:al.loc a≠.loc m1:=λh=>hne (al.loc.inj h);refine br (tm nd) (oL σ ρ nd ae m1 o1 o2) (λt post ρ' σ' I=>I.casesOn λpre hρ n1 n2 n3 er u=>⟨(u.ne _ hab).trans ha,_,rfl,λP' hP'=>?_⟩) (λρ' σ' I=>I.casesOn λpre hρ n1 n2 n3 er u=>⟨(u.ne _ hab).trans ha,?_⟩) (DV nd.length) _ _
  (.mk [] (λx h1 h2 h3 h4=>(af.put_ne _ _ h3).trans ((af.put_ne _ _ h2).trans (af.put_ne _ _ h1))) rfl rfl rfl rfl ⟨hl.trans (congrArg (some∘PO.dict) (lJ λx _=>(if_neg DX).symm)),λ_ _=>rfl⟩)
 · have htN:t < nd.length:=D3.mp (er▸D0 _ (.head _));have htp:t∉pre:=λh=>(EV.mp (er▸F8 (n:=nd.length))).2.2 t h t (.head _) rfl;have q2:=(hρ "labels" (by decide) (by decide) (by decide) (by decide)).trans r2;have hg:=fV N (ae:=λx=>if x∈pre then aO ae (ae o2) (ae o1) x else ae x) htN;rw [if_neg htp] at hg;have fin:∀v:Nat,v=aO ae (ae o2) (ae o1) t->eh σ' (P' (ρ'.put "t" (tm nd t))) (.int (v:Nat)) (.ref (.loc m1)) (tm nd t):=λv hv=>
    zm u.at_ (hdk htN) (by rw [lD,DD,Ez];exact au hlen) (hP' _ _ (.mk (pre ++ [t]) (λx h1 h2 h3 h4=>(af.put_ne _ _ h4).trans (hρ x h1 h2 h3 h4)) n1 n2 n3 (er.trans (Fl pre t post))
     (u.trans ⟨(aa.set_self _ _ _).trans (congrArg (some∘PO.dict) ((BV N htN).trans (lJ λx _=>?_))),λ_ h=>aa.set_ne _ _ h⟩)))
   · refine ⟨_,q2,_,rfl,bz u.at_ (hdk htN) hg ⟨_,n2,Dq ?_⟩⟩;by_cases e3:ae t=ae o1
     · exact iT (decide_eq_true e3) ⟨_,n3,_,q2,_,rfl,fin _ (be e3).symm⟩
     · exact iB (decide_eq_false e3) ⟨_,q2,_,rfl,bz u.at_ (hdk htN) hg ⟨_,q2,_,rfl,fin _ (aR e3).symm⟩⟩
   · by_cases e1:x=t
     · rw [if_pos e1,if_pos (D0 _ (DS.mpr e1)),e1];exact hv
     · rw [if_neg e1];by_cases e2:x∈pre
       · rw [if_pos e2,if_pos (D7 _ e2)]
       · rw [if_neg e2,if_neg λh=>(Eb.mp h).elim e2 λh=>e1 (DS.mp h)]
 · rw [Eg] at er;exact hN e ρ' σ' hρ n1 ⟨u.at_.trans (congrArg (some∘PO.dict) (lJ λx hx=>if_pos (er▸D3.mpr hx))),u.ne⟩
theorem tg(nd:av):(((DV nd.length).map (tm nd)).zipIdx.map λx=>PV.tup [.int x.2,x.1])=(DV nd.length).map λk=>PV.tup [.int (k:Nat),tm nd k]:=by
 refine JE (by rw [DD,HD,DD,DD]) λp hp hq=>?_;rw [GI,List.getElem_zipIdx,GI,GI,I7,FK]
theorem sm{nd:av}(N:bP nd){K:List (PV×PV)->Prop}(post:List Nat):∀pre:List Nat,DV nd.length=pre ++ post->K (lD nd λx=>x)->
 cJ (post.map λk=>PV.tup [tm nd k,.int (k:Nat)]) (pre.map λk=>(tm nd k,PV.int (k:Nat))) K:=by
 induction post with
 | nil=>
  intro pre e h;rw [Eg] at e;rw [← e];exact h
 | cons k r ih=>
  intro pre e h;have hk:k < nd.length:=D3.mp (e▸D0 _ (.head _));have hpre:∀x∈pre,x < nd.length:=λx hx=>D3.mp (e▸D7 _ hx);have hnot:∀kv∈pre.map λk=>(tm nd k,PV.int (k:Nat)),kv.1≠tm nd k:=λkv hm e2=>(DO.mp hm).elim λx q=>
   (EV.mp (e▸F8 (n:=nd.length))).2.2 x q.1 k (.head _) (N.inj x k (hpre x q.1) hk ((congrArg Jd q.2).trans e2))
  refine Ev.mk (tm nd k,.int (k:Nat)) rfl ⟨⟨(mF (N.tm k hk)).1,N.depth hk,λkv hm=>(DO.mp hm).elim λx q=>q.2▸⟨wN (N.tm x (hpre x q.1)) (N.tm k hk),N.depth (hpre x q.1)⟩⟩,?_⟩;rw [i7 hnot];have:=ih (pre ++ [k]) (e.trans (Fl pre k r)) h;rw [D4] at this;exact this
noncomputable def ie(x:Str×List Nat):PV:=.tup [.str x.1,.tup (ai x.2)]
noncomputable def je(nd:av)(sn:List ((Str×List Nat)×Nat)):List (PV×PV):=sn.map λx=>(ie x.1,tm nd x.2)
theorem wR{x y:Str×List Nat}(h:ie x=ie y):x=y:=
 have e:=ES (PV.tup.inj h)
 MV (PV.str.inj e.1) (oA (PV.tup.inj (ES e.2).1))
theorem k8(x:Str×List Nat):aK (ie x)<=8:=by
 show max 0 (max (aP (ai x.2)+1) 0)+1<=8;rw [gG];decide
theorem yo(nd:av)(sn:List ((Str×List Nat)×Nat))(x:Str×List Nat):DK (je nd sn) (ie x):=
 ⟨⟨trivial,jJ _,trivial⟩,k8 x,λkv h=>(DO.mp h).elim λy q=>q.2▸⟨⟨⟨rfl,rfl⟩,jK _ _,trivial⟩,k8 _⟩⟩
theorem uU{nd:av}{sn:List ((Str×List Nat)×Nat)}{x:Str×List Nat}{z:PV}(h:aB (je nd sn) (ie x)=some z):∃o,z=tm nd o/\(x,o)∈sn:=
 (DO.mp (yn h)).elim λy q=>⟨y.2,(E0 q.2).2.symm,wR (E0 q.2).1▸q.1⟩
theorem pA{d:List (PV×PV)}{x:PV}(h:aB d x=none):∀kv∈d,kv.1≠x:=by
 induction d with
 | nil=>exact λ_ h=>absurd h DX
 | cons kv r ih=>
  have h:(if aG kv.1 x=true then some kv.2 else aB r x)=none:=h;by_cases e:aG kv.1 x=true
  · rw [if_pos e] at h;exact nomatch h
  · rw [if_neg e] at h;exact λkv' hm=>(D5.mp hm).elim (λq=>q▸λq=>e (bg.mpr q)) (ih h kv')
theorem th{σ:aa}{Q:PV->aa->Prop}{p:al}{d:List (PV×PV)}{x y:PV}(hp:σ p=some (.dict d))(hd:DK d x)(hl:d.length < ay)(h1:∀z,aB d x=some z->Q z σ)(h2:aB d x=none->∀σ',bL σ p (.dict (d ++ [(x,y)])) σ'->Q y σ'):cb σ Q .dSetdef (.ref p) [x,y]:=
 .setd hp hd hl h1 λh=>h2 h _ (upd _ _ _)
theorem zw{σ:aa}{Q:PV->aa->Prop}{v x:PV}{l:List PV}(e:v=.tup (x::l))(h:Q x σ):eg σ Q v (.int 0):=e▸.tup (F9 0) (by decide) rfl h
theorem wU{σ:aa}{Q:PV->aa->Prop}{v x:PV}{l:List PV}(e:v=.tup (x::l))(hl:l.length+1 < ay)(h:Q (.tup l) σ):(0:Int)<=1/\(1:Int) < 1000/\iL σ Q (1:Int).toNat v:=e▸fQ hl h
noncomputable def oPV(nd:av):Option Nat->PV
 | some o=>tm nd o
 | none=>.none
noncomputable def BW(nd:av)(x:Nat×Option Nat):PV:=.tup [tm nd x.1,oPV nd x.2]
noncomputable def k9(eqs:List (Nat×Nat))(N:Nat):List (Nat×Option Nat):=eqs.map (λx=>(x.1,some x.2)) ++ (DV N).map λt=>(t,none)
theorem Am(nd:av)(eqs:List (Nat×Nat)):(eqs.map λx=>PV.tup [tm nd x.1,tm nd x.2]) ++ ((DV nd.length).map λk=>PV.tup [tm nd k,.none])=(k9 eqs nd.length).map (BW nd):=by
 rw [k9,D4,Ea,Ea];rfl
theorem An{nd:av}{eqs:List (Nat×Nat)}(he:∀x∈eqs,x.1 < nd.length/\x.2 < nd.length){x:Nat×Option Nat}(h:x∈k9 eqs nd.length):x.1 < nd.length/\∀o,x.2=some o->o < nd.length/\(x.1,o)∈eqs:=
 (Eb.mp h).elim (λh=>(DO.mp h).elim λy q=>q.2▸⟨(he y q.1).1,λo e=>DN e▸⟨(he y q.1).2,q.1⟩⟩) λh=>(DO.mp h).elim λy q=>q.2▸⟨D3.mp q.1,nofun⟩
theorem mG(eqs:List (Nat×Nat))(N:Nat):(k9 eqs N).length=eqs.length+N:=by rw [k9,DG,DD,DD,Ez]
structure yp(nd:av)(ae:Nat->Nat)(sn:List ((Str×List Nat)×Nat))(x:Nat×Option Nat):Prop where
 eq:∀o,x.2=some o->ae x.1=ae o
 nd:x.2=none->∀op ks,nd[x.1]? = some (op,ks)->∃o,((op,ks.map ae),o)∈sn/\ae x.1=ae o
theorem fG.of{nd:av}{eqs:List (Nat×Nat)}{ae:Nat->Nat}{sn:List ((Str×List Nat)×Nat)}(hn:(sn.map (·.1)).Nodup)(h:∀x∈k9 eqs nd.length,yp nd ae sn x):fG nd eqs ae where
 held:=λx hx=>(h (x.1,some x.2) (D7 _ (DO.mpr ⟨x,hx,rfl⟩))).eq _ rfl
 cong:=λi j op ks ls hi hj e=>by
  have g:∀{i ks},nd[i]? = some (op,ks)->∃o,((op,ks.map ae),o)∈sn/\ae i=ae o:=λ{i ks} hi=>(h (i,none) (D0 _ (DO.mpr ⟨i,D3.mpr (DR.mp hi).1,rfl⟩))).nd rfl op ks hi;refine (g hi).elim λo q=>(g hj).elim λo' q'=>?_;rw [e] at q;rw [q.2,q'.2,ww hn q.1 q'.1]
structure CR(a b m1 m2:Nat)(ρ:af):Prop where
 t:ρ "terms" = some (.ref (.loc a))
 o:ρ "told" = some (.ref (.loc b))
 l:ρ "labels" = some (.ref (.loc m1))
 s:ρ "seen" = some (.ref (.loc m2))
structure CB(σ:aa)(nd:av)(eqs:List (Nat×Nat))(m1 m2 n3:Nat)(ae:Nat->Nat)(sn:List ((Str×List Nat)×Nat))(σ':aa):Prop where
 r:Ro σ σ'
 l:σ' (.loc n3)=some (.list ((k9 eqs nd.length).map (BW nd)))
 d1:σ' (.loc m1)=some (.dict (lD nd ae))
 d2:σ' (.loc m2)=some (.dict (je nd sn))
theorem CB.ro{σ:aa}{nd:av}{eqs:List (Nat×Nat)}{m1 m2 n3:Nat}{ae:Nat->Nat}{sn:List ((Str×List Nat)×Nat)}{σ' σ'':aa}(B:CB σ nd eqs m1 m2 n3 ae sn σ')(r:Ro σ' σ''):CB σ nd eqs m1 m2 n3 ae sn σ'':=⟨B.r.trans r,r.keepL B.l,r.keepL B.d1,r.keepL B.d2⟩
inductive mH(σ:aa)(nd:av)(eqs:List (Nat×Nat))(a:Nat)(b:Nat)(m1:Nat)(m:Nat)(ρ:af)(σ':aa):Prop
 | mk (ae:Nat->Nat) (bn:Bool):ρ "terms" = some (.ref (.loc a))->ρ "told" = some (.ref (.loc b))->ρ "labels" = some (.ref (.loc m1))->ρ "is_new" = some (.bool bn)->Ro σ σ'->σ' (.loc m1)=some (.dict (lD nd ae))->dS nd eqs ae->(bn=false->fG nd eqs ae)->m=2*cp nd.length ae+(if bn=true then 1 else 0)->mH σ nd eqs a b m1 m ρ σ'
inductive mI(σ:aa)(nd:av)(eqs:List (Nat×Nat))(a:Nat)(b:Nat)(m1:Nat)(ae:Nat->Nat)(m2:Nat)(n3:Nat)(rest:List (Nat×Option Nat))(ρ:af)(σ':aa):Prop
 | mk (pre:List (Nat×Option Nat)) (lab':Nat->Nat) (sn:List ((Str×List Nat)×Nat)) (bn:Bool):k9 eqs nd.length=pre ++ rest->CR a b m1 m2 ρ->ρ "is_new" = some (.bool bn)->CB σ nd eqs m1 m2 n3 lab' sn σ'->dS nd eqs lab'->d8 nd eqs lab' sn->(bn=true->cp nd.length lab' < cp nd.length ae)->
  (bn=false->lab'=ae/\∀x∈pre,yp nd ae sn x)->(sn.map (·.1)).Nodup->sn.length<=pre.length->mI σ nd eqs a b m1 ae m2 n3 rest ρ σ'
theorem so{c:Cx}(G:Gd c)(P:aD c){σ:aa}{nd:av}{eqs:List (Nat×Nat)}{a b:Nat}(N:bP nd)(he:∀x∈eqs,x.1 < nd.length/\x.2 < nd.length)(hel:eqs.length < 1000)
 (ha:σ (.loc a)=some (.list ((DV nd.length).map (tm nd)))) (hb:σ (.loc b)=some (.list (eqs.map λx=>.tup [tm nd x.1,tm nd x.2]))) {Q:PV->aa->Prop}
 (hQ:∀σ' m ae,Ro σ σ'->σ (.loc m)=none->σ' (.loc m)=some (.dict (lD nd ae))->dS nd eqs ae->fG nd eqs ae->Q (.ref (.loc m)) σ') (k:Nat) :
 aj c (k+1) .l_closed [.ref (.loc a),.ref (.loc b)] σ Q:=by
 have hrl:(DV nd.length).length < ay:=by rw [Ez];exact au (DH N.small (by decide))
 have hlen:((DV nd.length).map (tm nd)).length < ay:=(DD _).symm▸hrl;refine aw G P .l_closed rfl ⟨_,rfl,.li ha hlen ?_⟩;rw [tg];refine d7 (λk=>PV.tup [.int (k:Nat),tm nd k]) (λk=>PV.tup [tm nd k,.int (k:Nat)]) (λσ' hr=>hr.keepL ha) hrl (λx hx=>⟨_,rfl,λσ' hr P1 P0 hp1=>iT rfl ⟨_,af.put_self _ _ _,_,(af.put_ne _ _ (by decide)).trans (af.put_self _ _ _),hp1 _ hr⟩⟩)
  λσ1 hr1=>bo λn1 σ2 ra la=>.dict la ((DD _).symm▸hrl) (sm N _ [] rfl (dR λm1 σ3 hm1 u3=>⟨_,rfl,rfl,?_⟩))
 have hr2:Ro σ σ2:=hr1.trans ra;have hm10:=hr2.none hm1;have ham1:a≠m1:=λe=>bh ha hm10 (congrArg _ e);refine ⟨2*cp nd.length (λx=>x)+2,dN (mH σ nd eqs a b m1) (λm ρ σ4 I K' hK'=>I.casesOn λae bn r1 r2 r3 r4 hr4 hl4 hok hcl hm=>⟨_,r4,.mk ?_⟩) _ (2*cp nd.length (λx=>x)+1) _ _ (D6 _)
  (.mk (λx=>x) true rfl rfl rfl rfl (hr2.upL hm10 u3) u3.at_ ⟨λx y _ _ h=>h▸CC.rfl,λx hx=>⟨hx,rfl⟩⟩ nofun rfl)⟩
 clear u3 hr1 ra la hm1;cases bn with
 | false=>exact iB rfl ⟨_,r3,hQ _ m1 ae hr4 hm10 hl4 hok (hcl rfl)⟩
 | true=>
  refine iT rfl (dR λm2 σ5 hm2 u5=>⟨_,rfl,rfl,_,r2,_,r1,?_⟩);have h12:al.loc m1≠.loc m2:=bh hl4 hm2;have hm20:=hr4.none hm2;have ham2:al.loc a≠.loc m2:=bh ha hm20;have hr5:Ro σ σ5:=hr4.upL hm20 u5;have hl5:=(u5.ne _ h12).trans hl4;clear hr4 hl4 hcl hm2;refine cz (hr5.keepL ha) hlen (d7 (tm nd) (λk=>PV.tup [tm nd k,.none]) (λσ' hr=>hr.keepL (hr5.keepL ha)) hrl (λx hx=>⟨_,rfl,λσ' hr P1 P0 hp1=>iT rfl ⟨_,af.put_self _ _ _,hp1 _ hr⟩⟩) λσ6 hr6=>bo λn2 σ7 r7 l7=>?_);have r57:Ro σ5 σ7:=hr6.trans r7;have hil:eqs.length+nd.length < 10000:=DH (Kg hel N.small) (by decide);refine .addL (r57.keepL (hr5.keepL hb)) l7 (by rw [DD,DD,Ez];exact au hil) (dR λn3 σ8 hn3 u8=>?_);rw [Am] at u8;have hn31:=bh (r57.keepL hl5) hn3;have hn32:=bh (r57.keepL u5.at_) hn3;have r58:Ro σ5 σ8:=r57.upL (r57.none hn3) u8;have B8:CB σ nd eqs m1 m2 n3 ae [] σ8:=⟨hr5.trans r58,u8.at_,r58.keepL hl5,r58.keepL u5.at_⟩;clear hr6 r7 l7 hn3 u8 r57 r58 u5 hl5;refine cz B8.l (by rw [DD,mG];exact au hil) ?_;refine br (BW nd) (mI σ nd eqs a b m1 ae m2 n3) (λx rest ρ2 σ9 I=>I.casesOn λpre lab' sn bn ei R s5 B hok' hsn hbt hbf hnd hsl=>⟨B.l,_,rfl,λP' hP'=>?_⟩) (λρ2 σ9 I=>I.casesOn λpre lab' sn bn ei R s5 B hok' hsn hbt hbf hnd hsl=>⟨B.l,?_⟩)
   (k9 eqs nd.length) _ _ (.mk [] ae [] false rfl ⟨r1,r2,r3,rfl⟩ rfl B8 hok (λ_ h=>absurd h DX) nofun (λ_=>⟨rfl,λ_ h=>absurd h DX⟩) Fg (DQ 0))
  · clear B8 r1 r2 r3 r4 hQ hK';have hx:=An he (ei▸D0 _ (.head _):x∈k9 eqs nd.length);have hle:cp nd.length lab'<=cp nd.length ae:=by
     cases bn with
     | true=>exact D9 (hbt rfl)
     | false=>rw [(hbf rfl).1];exact DQ _
    have hpl:pre.length < 10000:=DC (by rw [← mG,ei,DG];exact Ed _ _) hil;have ei2:=ei.trans (Fl pre x rest);have fin:∀{o sn' σb ρ3},o < nd.length->CC nd eqs x.1 o->(lab' x.1=lab' o->yp nd lab' sn' x)->d8 nd eqs lab' sn'->(∀y∈sn,y∈sn')->(sn'.map (·.1)).Nodup->sn'.length<=pre.length+1->CB σ nd eqs m1 m2 n3 lab' sn' σb->CR a b m1 m2 ρ3->ρ3 "is_new" = some (.bool bn)->
     ρ3 "one" = some (tm nd x.1)->ρ3 "other" = some (tm nd o)->eC (aj c) k wQ ρ3 σb P' Q:=λhoN hcc hh hsn' hsub hnd' hsl' B R s5 r1 r2=>
     Al N (B.r.keepL ha) B.d1 ham1 R.t R.l r1 r2 hx.1 hoN
      (λe=>hP' _ _ (.mk (pre ++ [x]) lab' _ bn ei2 R s5 B hok' hsn' hbt (λhb=>⟨(hbf hb).1,λy hy=>(Eb.mp hy).elim (λh=>⟨((hbf hb).2 y h).eq,λq op ks ht=>(((hbf hb).2 y h).nd q op ks ht).imp λo q=>⟨hsub _ q.1,q.2⟩⟩) λh=>(hbf hb).1▸DS.mp h▸hh e⟩) hnd' (by rw [DG];exact hsl')))
      λe ρ' σ' hρ' hnw u=>hP' _ _ (.mk (pre ++ [x]) _ _ true ei2 ⟨(hρ' _ (by decide) (by decide) (by decide) (by decide)).trans R.t,(hρ' _ (by decide) (by decide) (by decide) (by decide)).trans R.o,(hρ' _ (by decide) (by decide) (by decide) (by decide)).trans R.l,(hρ' _ (by decide) (by decide) (by decide) (by decide)).trans R.s⟩ hnw
       ⟨B.r.upL hm10 u,(u.ne _ hn31.symm).trans B.l,u.at_,(u.ne _ h12.symm).trans B.d2⟩ (hok'.relab hx.1 hoN hcc e) (hsn'.relab hok' hx.1 hoN hcc) (λ_=>DI (hok'.less hx.1 hoN e) hle) nofun hnd' (by rw [DG];exact hsl'))
    cases hx2:x.2 with
    | some o=>
     have ho:=hx.2 o hx2;refine ⟨_,rfl,eO (iB (aC λe=>?_) ?_)⟩
     · have h:=N.tm o ho.1;rw [show tm nd o=.none from e] at h;exact nomatch h
     · exact fin ho.1 (λR hR=>hR.held (x.1,o) ho.2) (λe=>⟨λo' q=>DN (hx2.symm.trans q)▸e,λq=>nomatch hx2.symm.trans q⟩) hsn (λ_ h=>h) hnd (FG hsl) B ⟨R.t,R.o,R.l,R.s⟩ s5 rfl rfl
    | none=>
     refine (bP.get hx.1).elim λop q=>q.elim λks ht=>?_;have htm:=eY N.kid ht;have hk2:=(N.op ht).ok.2;have hklen:(ks.map (tm nd)).length+1 < ay:=by rw [DD];exact au (DC (Ei hk2) (by decide))
     have hkb:ks.length < ay:=au (DC hk2 (by decide));refine ⟨_,rfl,eO (iT (aJ _) ⟨_,R.s,_,iR B.d2 rfl,_,rfl,zw htm ⟨_,rfl,wU htm hklen (cW (EE hklen) ?_)⟩⟩)⟩;refine d7 (tm nd) (λx=>PV.int (lab' x:Nat)) (λ_ _=>trivial) hkb (λy hy=>⟨_,rfl,λσ' hr P1 P0 hp1=>?_⟩) λσa hra=>bo λn4 σb rb lb=>?_
     · have hyN:=DH (N.kid _ op ks ht y hy) hx.1;exact iT rfl ⟨_,(af.put_ne _ _ (by decide)).trans R.l,_,af.put_self _ _ _,bz (hr.keepL B.d1) (kq N (N.tm y hyN) (N.depth hyN)) (fV N hyN) (hp1 _ hr)⟩
     rw [show ks.map (λx=>PV.int (lab' x:Nat))=ai (ks.map lab') by rw [ai,Ea];rfl] at lb;have B2:=B.ro (hra.trans rb);refine .tupL lb (by rw [ah,DD];exact hkb) ⟨_,rfl,th B2.d2 (yo nd sn (op,ks.map lab')) ((DD _).symm▸au (DC hsl hpl)) (λz hz=>?_) λhz σc uc=>?_⟩
     · refine (uU (x:=(op,ks.map lab')) hz).elim λo q=>?_;have h:=hsn.hit N.kid ht q.2;rw [q.1];exact fin h.1 h.2 (λe=>⟨λo' q=>(nomatch hx2.symm.trans q),λ_ op' ks' ht'=>by
        have e':=E0 (DN (ht.symm.trans ht'));rw [← e'.1,← e'.2];exact ⟨o,q.2,e⟩⟩) hsn (λ_ h=>h) hnd (FG hsl) B2 ⟨R.t,R.o,R.l,R.s⟩ s5 rfl rfl
     · have hsd:je nd sn ++ [(PV.tup [.str op,.tup (ai (ks.map lab'))],tm nd x.1)]=je nd (sn ++ [((op,ks.map lab'),x.1)]):=by rw [je,je,D4];rfl
       rw [hsd] at uc;have hnk:(op,ks.map lab')∉sn.map (·.1):=λhm=>(DO.mp hm).elim λy q=>pA hz (ie y.1,tm nd y.2) (DO.mpr ⟨y,q.1,rfl⟩) (congrArg ie q.2);exact fin hx.1 CC.rfl (λe=>⟨λo' q=>(nomatch hx2.symm.trans q),λ_ op' ks' ht'=>by
        have e':=E0 (DN (ht.symm.trans ht'));rw [← e'.1,← e'.2];exact ⟨_,D0 _ (.head _),rfl⟩⟩) (hsn.snoc hok' N.kid ht) (λ_ h=>D7 _ h)
        (by rw [D4];exact EV.mpr ⟨hnd,Fb _ _,λx hx y hy e=>hnk ((show y=(op,ks.map lab') from DS.mp hy)▸e▸hx)⟩) (by rw [DG];exact Ei hsl)
        ⟨B2.r.upL hm20 uc,(uc.ne _ hn32.symm).trans B2.l,(uc.ne _ h12).trans B2.d1,uc.at_⟩ ⟨R.t,R.o,R.l,R.s⟩ s5 rfl rfl
  · rw [Eg] at ei;refine hK' (2*cp nd.length lab'+(if bn=true then 1 else 0)) _ _ ?_ (.mk lab' bn R.t R.o R.l s5 B.r B.d1 hok' (λhb=>(hbf hb).1.symm▸fG.of hnd (ei▸(hbf hb).2)) rfl);rw [hm];cases bn with
    | true=>exact IK (Jg (hbt rfl) (by decide)) 1
    | false=>rw [(hbf rfl).1];exact D6 _
theorem yq:∀o∈nums.map (·.1),I1 o=numOf o/\(numOf o).isSome=true/\o.length<=640:=by decide +kernel
theorem tq:numOf oX=none/\numOf oY=none:=by decide +kernel
theorem Ao{n:Nat}(v:Int):((n:Int) - v).fmod n=(-v).fmod n:=by
 rw [Hg _ (EL _),Hg _ (EL _),Int.sub_eq_add_neg,Int.add_emod_left]
theorem uV{c:Cx}(G:Gd c)(P:aD c){σ:aa}{n:Nat}(hn2:2<=n)(hn7:n<=7){op:Str}{vs:List Va}(ho:eP op vs.length)(hv:∀v∈vs,v.ok n){q:Nat}(hq:σ (.loc q)=some (.list (vs.map Va.pv))){Q:PV->aa->Prop}
 (hQ:∀σ',Ro σ σ'->Q (bR n op vs).pv σ') (k:Nat):aj c (k+1) .l_worth [.str op,.ref (.loc q),.int (n:Nat)] σ Q:=by
 have h2:=ho.ok.2;have hn0:((n:Nat):Int)≠0:=λe=>nomatch (Fk e▸hn2:2<=0);have hso:=(gP ho).1;refine aw G P .l_worth rfl ⟨_,rfl,bo λm σ1 hr1 u=>?_⟩;have hq1:=hr1.keepL hq;have hQ0:=hQ σ1 hr1;refine .eq (.li hq1 u (Va.plains vs) rfl (Va.depths vs▸Eo _) ?_);clear hQ hq u;by_cases e0:vs=[]
 · rw [e0] at ho hQ0;refine iT (by rw [e0];exact aJ _) ⟨_,rfl,.in_ (.tup hso (by decide +kernel) (by decide +kernel) ?_)⟩;have hQ0:Q (match numOf op with | some i=>Va.num (i.fmod n) | none=>.non).pv σ1:=hQ0;have hx:op=oX\/op=oY\/op∈nums.map (·.1):=ho.elim IY λh=>h.elim (λh=>nomatch h.1) λh=>nomatch h.1;by_cases exy:op=oX\/op=oY
   · rw [show numOf op=none from exy.elim (λe=>e▸tq.1) λe=>e▸tq.2] at hQ0;exact iT (fS.mpr (exy.elim (λe=>e▸.head _) λe=>e▸.tail _ (.head _))) hQ0
   · have q:=yq op (hx.elim (λh=>absurd (.inl h) exy) λh=>h.elim (λh=>absurd (.inr h) exy) id);refine (FJ.mp q.2.1).elim λi e=>?_;rw [e] at hQ0;exact iB (FQ.mpr λh=>exy ((D5.mp (fS.mp h)).imp PV.str.inj λh=>PV.str.inj (DS.mp h))) ⟨_,rfl,.intS _ (q.1.trans e) q.2.2 ⟨_,rfl,.mod hn0 hQ0⟩⟩
 refine iB (aC λh=>e0 (Gf.mp (PV.tup.inj h))) ⟨_,rfl,nD (a:=.non) hq1 ?_⟩;by_cases en:Va.non∈vs
 · rw [fT h2 en] at hQ0;exact qO (decide_eq_true en) (iT (decide_eq_true en) ⟨_,rfl,nD (a:=.non) hq1 (iT (decide_eq_true en) hQ0)⟩)
 refine hZ (decide_eq_false en) ⟨_,rfl,nD (a:=.bad) hq1 ?_⟩;by_cases eb:Va.bad∈vs
 · rw [oG h2 eb en] at hQ0;exact qO (decide_eq_true eb) (iT (decide_eq_true eb) ⟨_,rfl,nD (a:=.non) hq1 (iB (decide_eq_false en) hQ0)⟩)
 refine hZ (decide_eq_false eb) (iB rfl ⟨_,rfl,iS hso (by decide +kernel) ?_⟩);refine (s8 e0 h2 en eb).elim (λh=>h.elim λi e=>?_) λh=>h.elim λi h=>h.elim λj e=>?_
 · rw [e] at ho hq1 hQ0;have e1:op=gO:=ho.elim (λh=>nomatch h.1) λh=>h.elim IY λh=>nomatch h.1;exact iT (by rw [e1];exact aJ _) ⟨_,rfl,_,rfl,bH (a:=0) hq1 (by decide) rfl (.sub ⟨_,rfl,.mod hn0 ((Ao i).symm▸hQ0)⟩)⟩
 · rw [e] at ho hq1 hQ0 hv;have e1:op=dG\/op=fZ:=ho.elim (λh=>nomatch h.1) λh=>h.elim (λh=>nomatch h.1) IY;refine iB (aC λh=>e1.elim (λe=>mC ((PV.str.inj h).symm.trans e)) λe=>mD ((PV.str.inj h).symm.trans e)) ⟨_,rfl,iS hso (by decide +kernel) ?_⟩;have hQ0:Q (.int ((if op=dG then i+j else i*j).fmod n)) σ1:=hQ0;by_cases eo:op=dG
   · rw [if_pos eo] at hQ0;exact iT (by rw [eo];exact aJ _) ⟨_,rfl,bH (a:=0) hq1 (by decide) rfl ⟨_,rfl,bH (a:=1) hq1 (by decide) rfl (.addI ⟨_,rfl,.mod hn0 hQ0⟩)⟩⟩
   · rw [if_neg eo] at hQ0;have lt:∀{i:Int},0<=i/\i < (n:Int)->i.natAbs < 2 ^ 62:=λh=>by clear hQ0 hv;lia
     exact iB (aC λh=>eo (PV.str.inj h)) ⟨_,rfl,bH (a:=0) hq1 (by decide) rfl ⟨_,rfl,bH (a:=1) hq1 (by decide) rfl (.mul (lt (hv (.num i) (.head _) i rfl)) (lt (hv (.num j) (.tail _ (.head _)) j rfl)) ⟨_,rfl,.mod hn0 hQ0⟩)⟩⟩
noncomputable def nI(nd:av)(ae:Nat->Nat)(n:Nat)(f:Nat->Va):Prop:=∀(m:Nat) (op:Str) (ks:List Nat),nd[m]? = some (op,ks)->aX (bR n op (ks.map λk=>f (ae k))) (f (ae m))
theorem yr{a b:Va}(h:dt a b=a):aX b a:=h▸aX.joinR a b
theorem CY{C:CP}{k:Nat}{ρ:af}{σ:aa}{Q:PV->aa->Prop}{a b:Va}(p:Pos)(h1:ρ "here" = some a.pv)(h2:ρ "worth" = some b.pv)(h:Q (dt a b).pv σ) :
 a8 C k (.ife (.cmp (.var "worth" p) .Is (.cst .none 0 p) p) (.var "here" p) (.ife (.bool .Or (.cons (.cmp (.var "here" p) .Is (.cst .none 0 p) p) (.cons (.cmp (.var "here" p) .Eq (.var "worth" p) p) .nil)) p) (.var "worth" p) (.cst (.str (Dy "clash")) 0 p) p) p) ρ σ Q:=by
 refine ⟨_,h2,jb ?_⟩;by_cases e:b=.non
 · rw [e,jR] at h;exact iT (decide_eq_true e) ⟨_,h1,h⟩
 refine iB (decide_eq_false e) ⟨_,h1,jb ?_⟩;by_cases e1:a=.non
 · rw [e1] at h;exact qO (decide_eq_true e1) (iT (decide_eq_true e1) ⟨_,h2,h⟩)
 refine hZ (decide_eq_false e1) ⟨_,h1,_,h2,uN ?_⟩;by_cases e2:a=b
 · rw [e2,jc] at h;exact qO (decide_eq_true e2) (iT (decide_eq_true e2) ⟨_,h2,h⟩)
 · rw [jS e1 e e2] at h;exact hZ (decide_eq_false e2) (iB rfl h)
structure pM(nd:av)(eqs:List (Nat×Nat))(n:Nat)(ks:List Nat)(f:Nat->Va):Prop where
 nodup:ks.Nodup
 out:∀c,c∉ks->f c=.non
 lt:∀c∈ks,c < nd.length
 ok:∀c,(f c).ok n
 sound:bj nd eqs n f
inductive mJ(σ:aa)(nd:av)(eqs:List (Nat×Nat))(ae:Nat->Nat)(a:Nat)(m:Nat)(n:Nat)(m2:Nat)(mm:Nat)(ρ:af)(σ':aa):Prop
 | mk (ks:List Nat) (f:Nat->Va) (bn:Bool):ρ "terms" = some (.ref (.loc a))->ρ "labels" = some (.ref (.loc m))->ρ "n" = some (.int (n:Nat))->ρ "found" = some (.ref (.loc m2))->ρ "is_new" = some (.bool bn)->Ro σ σ'->σ' (.loc m2)=some (.dict (vD ks f))->pM nd eqs n ks f->(bn=false->nI nd ae n f)->mm=2*hts nd.length f+(if bn=true then 1 else 0)->mJ σ nd eqs ae a m n m2 mm ρ σ'
inductive mK(σ:aa)(nd:av)(eqs:List (Nat×Nat))(ae:Nat->Nat)(a:Nat)(m:Nat)(n:Nat)(m2:Nat)(f:Nat->Va)(post:List Nat)(ρ:af)(σ':aa):Prop
 | mk (pre:List Nat) (ks:List Nat) (f':Nat->Va) (bn:Bool):ρ "terms" = some (.ref (.loc a))->ρ "labels" = some (.ref (.loc m))->ρ "n" = some (.int (n:Nat))->ρ "found" = some (.ref (.loc m2))->ρ "is_new" = some (.bool bn)->Ro σ σ'->DV nd.length=pre ++ post->σ' (.loc m2)=some (.dict (vD ks f'))->pM nd eqs n ks f'->(bn=true->hts nd.length f' < hts nd.length f)->
  (bn=false->f'=f/\∀t∈pre,∀op ks,nd[t]? = some (op,ks)->aX (bR n op (ks.map λk=>f (ae k))) (f (ae t)))->mK σ nd eqs ae a m n m2 f post ρ σ'
theorem sq{c:Cx}(G:Gd c)(P:aD c){σ:aa}{nd:av}{eqs:List (Nat×Nat)}{ae:Nat->Nat}{a m n:Nat}(N:bP nd)(hn2:2<=n)(hn7:n<=7)(hlab:dS nd eqs ae)
 (ha:σ (.loc a)=some (.list ((DV nd.length).map (tm nd)))) (hl:σ (.loc m)=some (.dict (lD nd ae))) {Q:PV->aa->Prop}
 (hQ:∀σ' m2 ks f,Ro σ σ'->σ (.loc m2)=none->σ' (.loc m2)=some (.dict (vD ks f))->pM nd eqs n ks f->nI nd ae n f->Q (.ref (.loc m2)) σ') (k:Nat) :
 aj c (k+2) .l_worths [.ref (.loc a),.ref (.loc m),.int (n:Nat)] σ Q:=by
 have hlen:((DV nd.length).map (tm nd)).length < ay:=by rw [DD,Ez];exact au (DH N.small (by decide))
 refine aw G P .l_worths rfl (dR λm2 σ1 hm2 u1=>⟨_,rfl,rfl,?_⟩);refine ⟨2*hts nd.length (λ_=>.non)+2,dN (mJ σ nd eqs ae a m n m2) (λmm ρ σ2 I K' hK'=>I.casesOn λks f bn r1 r2 r3 r4 r5 hr2 hf V hst hmm=>⟨_,r5,.mk ?_⟩) _ (2*hts nd.length (λ_=>.non)+1) _ _ (D6 _)
  (.mk [] (λ_=>.non) true rfl rfl rfl rfl rfl (St.refl.upL hm2 u1) u1.at_ ⟨Fg,λ_ _=>rfl,λ_ h=>absurd h DX,λ_=>Va.ok_non,λw hw c=>.non⟩ nofun rfl)⟩
 clear u1;cases bn with
 | false=>exact iB rfl ⟨_,r4,hQ _ m2 ks f hr2 hm2 hf V (hst rfl)⟩
 | true=>
  refine iT rfl ⟨_,r1,cz (hr2.keepL ha) hlen ?_⟩;clear hQ hst;refine br (tm nd) (mK σ nd eqs ae a m n m2 f) (λt post ρ1 σ3 I=>I.casesOn λpre ks f' bn s1 s2 s3 s4 s5 hr3 er hf V hbt hbf=>⟨hr3.keepL ha,_,rfl,λP' hP'=>?_⟩) (λρ1 σ3 I=>I.casesOn λpre ks f' bn s1 s2 s3 s4 s5 hr3 er hf V hbt hbf=>⟨hr3.keepL ha,?_⟩)
   (DV nd.length) _ _ (.mk [] ks f false r1 r2 r3 r4 rfl hr2 rfl hf V nofun λ_=>⟨rfl,λ_ h=>absurd h DX⟩)
  · clear r1 r2 r3 r4 r5 hK' hmm;have htN:t < nd.length:=D3.mp (er▸D0 _ (.head _));refine (bP.get htN).elim λop q=>q.elim λkk ht=>?_;have htm:=eY N.kid ht;have hop:=N.op ht;have hk2:kk.length<=2:=hop.ok.2;have hkN:∀{x},x∈kk->x < nd.length:=λh=>DH (N.kid t op kk ht _ h) htN;have hl3:=hr3.keepL hl;have hdk:∀{o:Nat},o < nd.length->DK (lD nd ae) (tm nd o):=λh=>kq N (N.tm _ h) (N.depth h);have hg:∀{o},o < nd.length->aB (lD nd ae) (tm nd o)=some (.int (ae o:Nat)):=λh=>fV N h;have hklen:(kk.map (tm nd)).length+1 < ay:=by rw [DD];exact au (DC (Ei hk2) (by decide))
    refine ⟨_,s4,_,iR hf rfl,_,s2,_,rfl,bz hl3 (hdk htN) (hg htN) (ki hf V.nodup V.out ⟨_,rfl,zw htm ⟨_,rfl,wU htm hklen (cW (EE hklen) ?_)⟩⟩)⟩;refine d7 (tm nd) (λx=>(f' (ae x)).pv) (λ_ _=>trivial) (au (DC hk2 (by decide))) (λx hx=>⟨_,rfl,λσ' hr P1 P0 hp1=>iT rfl ⟨_,(af.put_ne _ _ (by decide)).trans s4,_,iR (hr.keepL hf) rfl,_,(af.put_ne _ _ (by decide)).trans s2,_,af.put_self _ _ _,
     bz (hr.keepL hl3) (hdk (hkN hx)) (hg (hkN hx)) (ki (hr.keepL hf) V.nodup V.out (hp1 _ hr))⟩⟩) λσ4 hr4=>bo λn1 σ5 r5 l5=>?_
    refine ⟨_,s3,uV G P hn2 hn7 (vs:=kk.map λx=>f' (ae x)) (by rw [DD];exact hop) (λv hv=>(DO.mp hv).elim λx q=>q.2▸V.ok _) (l5.trans (congrArg (some∘PO.list) (Ea (f:=λx=>f' (ae x)) (g:=Va.pv) (l:=kk)).symm)) (λσ6 hr6=>⟨_,rfl,rfl,?_⟩) k⟩;have hr7:Ro σ3 σ6:=hr4.trans (r5.trans hr6);have hf6:=hr7.keepL hf;have hl6:=hr7.keepL hl3;have hr67:=hr3.trans hr7;have hwok:(bR n op (kk.map λx=>f' (ae x))).ok n:=Va.ok_node hn2 hn7 _ _;have hli:=hlab.idem t htN;have er2:=er.trans (Fl pre t post);clear hr4 r5 l5 hr6 hr7 hl3 hf hr3 hklen;refine CY ⟨0,0,0,0⟩ (a:=f' (ae t)) (b:=bR n op (kk.map λx=>f' (ae x))) rfl rfl ?_;have hS:bj nd eqs n (updV f' (ae t) (dt (f' (ae t)) (bR n op (kk.map λx=>f' (ae x))))):=V.sound.updV λw hw=>aX.lub (V.sound w hw _) (aX.tr (aX.node (jT.map λx hx=>
     hw.like (hlab.sound x (ae x) (hkN hx) (hlab.idem x (hkN hx)).1 (hlab.idem x (hkN hx)).2.symm)▸V.sound w hw _)) (hw.like (hlab.sound t (ae t) htN hli.1 hli.2.symm)▸hw.node ht))
    have hle:hts nd.length f'<=hts nd.length f:=by
     cases bn with
     | true=>exact D9 (hbt rfl)
     | false=>rw [(hbf rfl).1];exact DQ _
    have hst:dt (f' (ae t)) (bR n op (kk.map λx=>f' (ae x)))=f' (ae t)->f'=f->∀op' ks',nd[t]? = some (op',ks')->aX (bR n op' (ks'.map λk=>f (ae k))) (f (ae t)):=λee e1 op' ks' ht'=>by
     have e':=E0 (DN (ht.symm.trans ht'));rw [← e'.1,← e'.2,← e1];exact yr ee
    generalize bR n op (kk.map λx=>f' (ae x))=wv at hwok hS hst;refine ⟨_,rfl,_,rfl,yh ?_⟩;by_cases ee:dt (f' (ae t)) wv=f' (ae t)
    · exact iB (congrArg Ga (decide_eq_true ee)) (hP' _ _ (.mk (pre ++ [t]) ks f' bn s1 s2 s3 s4 s5 hr67 er2 hf6 V hbt λhb=>⟨(hbf hb).1,λu hu=>(Eb.mp hu).elim ((hbf hb).2 u) λh=>(DS.mp h).symm▸hst ee (hbf hb).1⟩))
    · refine iT (congrArg Ga (decide_eq_false ee)) ⟨_,rfl,_,rfl,rfl,_,s4,_,s2,_,rfl,bz hl6 (hdk htN) (hg htN) (uO hf6 V.nodup (DC (aM V.nodup V.lt) (DH N.small (by decide))) λks2 σ7 u7 d2 d3=>hP' _ _ ?_)⟩;exact .mk (pre ++ [t]) ks2 _ true s1 s2 s3 s4 rfl (hr67.upL hm2 u7) er2 u7.at_ ⟨d2,lI V.out d3,nF V.lt hli.1 d3,nE V.ok (Va.ok_join (V.ok _) hwok),hS⟩ (λ_=>DI (s9 hli.1 (zu (aX.joinL _ _) (Km ee))) hle) nofun
  · rw [Eg] at er;refine hK' (2*hts nd.length f'+(if bn=true then 1 else 0)) _ _ ?_ (.mk ks f' bn s1 s2 s3 s4 s5 hr3 hf V (λhb=>(hbf hb).1.symm▸λt op ks h=>(hbf hb).2 t (er▸D3.mpr (DR.mp h).1) op ks h) rfl);rw [hmm];cases bn with
    | true=>exact IK (Jg (hbt rfl) (by decide)) 1
    | false=>rw [(hbf rfl).1];exact D6 _
noncomputable def uW(N:Nat)(g:Nat->Va):Nat->Va:=λk=>if k < N then g k else .non
theorem gw{N:Nat}{g:Nat->Va}{k:Nat}(h:k < N):uW N g k=g k:=if_pos h
theorem uX{σ:aa}{nd:av}{eqs:List (Nat×Nat)}{cls:Nat->Nat}{E S n i:Nat}{ks:List Nat}{f:Nat->Va}{tl:List PV}(R:dW σ nd eqs cls E S n i ks f tl){ae:Nat->Nat}{fw:Nat->Va}(hlab:dS nd eqs ae)(hcl:fG nd eqs ae)
 (he:∀x∈eqs,x.1 < nd.length/\x.2 < nd.length) (hS:bj nd eqs n fw) (hst:nI nd ae n fw) {k:Nat} (hk:k < nd.length):f (cls k)=fw (ae k):=by
 have N:=R.H.ok.nd;have hV1:bj nd eqs n λk=>f (cls k):=λw hw c=>hw.like (R.H.ok.sound c)▸R.hS w hw (cls c);have hV2:PF nd eqs n λk=>f (cls k):=⟨λh=>congrArg f (R.H.iff.mpr h),λ{i op ks} hi=>R.hst (cls i) (R.H.rd.U.lt (DR.mp hi).1) (R.H.rd.U.idem i) i op ks hi rfl⟩;have hW1:bj nd eqs n (uW nd.length λk=>fw (ae k)):=λw hw c=>by
  by_cases h:c < nd.length
  · rw [gw h,hw.like (hlab.sound c (ae c) h (hlab.idem c h).1 (hlab.idem c h).2.symm)];exact hS w hw _
  · rw [uW,if_neg h];exact .non
 have hW2:PF nd eqs n (uW nd.length λk=>fw (ae k)):=⟨λh=>(h _ (hcl.closed he)).elim (congrArg _) λq=>by rw [gw q.1,gw q.2.1,q.2.2],λ{i op ks} hi=>by
  have hil:=(DR.mp hi).1;rw [gw hil,El λx hx=>gw (DH (N.kid i op ks hi x hx) hil)];exact hst i op ks hi⟩
 exact (yj hV1 hV2 hW1 hW2 k).trans (gw hk)
theorem qY{ae:Nat->Nat}{L:List Nat}(hL:L.Pairwise (· < ·)){r:List (Int×Int)}(hp:r.Perm (L.map λx=>((ae x:Int),(x:Int))))(hs:r.Pairwise λa b=>a.2<=b.2):r=L.map λx=>((ae x:Int),(x:Int)):=by
 have h1:=hp.map (·.2);rw [Ea] at h1;refine (fE h1 (E5.mpr hs)).elim λr' q=>?_;have e:r'=L:=gk (iz q.2.2 (q.2.1.nodup_iff.mpr (hL.imp λh=>D1 h))) hL λx=>q.2.1.mem_iff;have h2:r.map (λy=>((ae y.2.toNat:Int),y.2))=r:=(El λy hy=>(DO.mp (hp.mem_iff.mp hy)).elim λx q=>by rw [← q.2];rfl).trans (II r);have h3:r.map (λy=>((ae y.2.toNat:Int),y.2))=(r.map (·.2)).map λi=>((ae i.toNat:Int),i):=(Ea (f:=λy:Int×Int=>y.2) (g:=λi:Int=>((ae i.toNat:Int),i)) (l:=r)).symm;rw [← h2,h3,q.1,e,Ea];rfl
noncomputable def dv(ae:Nat->Nat)(l:List Nat):List (PV×PV):=l.map λk=>(.int (ae k:Nat),.int (k:Nat))
theorem mL(ae:Nat->Nat)(l:List Nat)(x:Nat):DK (dv ae l) (.int (x:Nat)):=dm l ae (λk=>.int (k:Nat)) x
theorem kr{ae:Nat->Nat}{l:List Nat}{k:Nat}(hn:(l.map ae).Nodup)(hk:k∈l):aB (dv ae l) (.int (ae k:Nat))=some (.int (k:Nat)):=by
 refine cG ?_ (DO.mpr ⟨k,hk,rfl⟩);rw [dv,Ea];show (l.map ((λn:Nat=>PV.int (n:Nat))∘ae)).Nodup;rw [← Ea];exact fP (λx y e=>Fk (PV.int.inj e)) hn
theorem Ap{ae:Nat->Nat}{l:List Nat}{x:Nat}(h:x∉l.map ae):∀kv∈dv ae l,kv.1≠.int (x:Nat):=λkv hm e=>(DO.mp hm).elim λk q=>
 h (DO.mpr ⟨k,q.1,Fk (PV.int.inj ((congrArg Jd q.2).trans e))⟩)
theorem jY(l:List Nat):plains (ai l)=true:=jX λ_ h=>(DO.mp h).elim λ_ q=>q.2▸rfl
theorem tv{v:Int}(h0:0<=v)(h7:v < 7):jW (.tup [.str (bK v)]):=.mk (gP (kj h0 h7).1).1 λ_ h=>absurd h DX
theorem qZ{nd:av}(N:bP nd){m:Nat}{v:Int}:(m < nd.length/\tm nd m=.tup [.str (bK v)])↔nd[m]? = some (bK v,[]):=
 ⟨λh=>(bP.get h.1).elim λop q=>q.elim λks g=>by
  have e:=h.2;rw [eY N.kid g] at e;have e:=ES (PV.tup.inj e);rw [g,PV.str.inj e.1,Gf.mp e.2],λh=>⟨(DR.mp h).1,by rw [eY N.kid h];rfl⟩⟩
theorem sr{N t:Nat}{pre post:List Nat}(e:DV N=pre ++ t::post):t < N/\pre=DV t:=by
 have hl:pre.length < N:=by
  have:=congrArg Gl e;rw [Ez,DG] at this;exact this▸FN (FB _)
 have ht:pre.length=t:=by
  have h1:(DV N)[pre.length]? = some t:=by rw [e,EW (DQ _),Ie];rfl
  rw [Gg hl] at h1;exact DN h1
 have hp:=congrArg (List.take pre.length) e;rw [List.take_left,List.take_range,LH (D9 hl),ht] at hp;exact ⟨ht▸hl,hp.symm⟩
structure DL(N:Nat)(cls ae:Nat->Nat):Prop where
 cc:∀{x y},x < N->y < N->(ae x=ae y↔cls x=cls y)
 le:∀a,cls a<=a
 idem:∀a,cls (cls a)=cls a
noncomputable def bV(cls:Nat->Nat)(l:List Nat):List Nat:=l.filter λx=>cls x == x
theorem fz{cls:Nat->Nat}{l:List Nat}{x:Nat}:x∈bV cls l↔x∈l/\cls x=x:=by rw [bV,EM,beq_iff_eq]
theorem yt{cls:Nat->Nat}{l:List Nat}{t:Nat}(h:cls t=t):bV cls (l ++ [t])=bV cls l ++ [t]:=by rw [bV,Fv,HQ (p:=λx=>cls x == x) (beq_iff_eq.mpr h)];rfl
theorem Aq{cls:Nat->Nat}{l:List Nat}{t:Nat}(h:cls t≠t):bV cls (l ++ [t])=bV cls l:=by rw [bV,Fv,HR (p:=λx=>cls x == x) λq=>h (beq_iff_eq.mp q)];exact Eg _
theorem DL.nodup{N:Nat}{cls ae:Nat->Nat}(D:DL N cls ae){t:Nat}(ht:t<=N):((bV cls (DV t)).map ae).Nodup:=by
 rw [Mf,E5];refine (Fw _ F8).imp_of_mem λhx hy hxy e=>hxy ?_;have hx:=fz.mp hx;have hy:=fz.mp hy;exact hx.2.symm.trans (((D.cc (DI (D3.mp hx.1) ht) (DI (D3.mp hy.1) ht)).mp e).trans hy.2)
theorem DL.hit{N:Nat}{cls ae:Nat->Nat}(D:DL N cls ae){t:Nat}(ht:t < N){z:PV}(h:aB (dv ae (bV cls (DV t))) (.int (ae t:Nat))=some z):bV cls (DV t ++ [t])=bV cls (DV t):=by
 refine Aq λe=>?_;rw [dD (Ap λhm=>?_)] at h
 · exact nomatch h
 · refine (DO.mp hm).elim λy q=>?_;have hy:=fz.mp q.1;have hyt:=D3.mp hy.1;exact D1 hyt (hy.2.symm.trans (((D.cc (DH hyt ht) ht).mp q.2).trans e))
theorem DL.new{N:Nat}{cls ae:Nat->Nat}(D:DL N cls ae){t:Nat}(ht:t < N)(h:aB (dv ae (bV cls (DV t))) (.int (ae t:Nat))=none):bV cls (DV t ++ [t])=bV cls (DV t) ++ [t]:=by
 refine yt (FZ λe=>?_);have hlt:=HH (D.le t) e;have hg:=kr (D.nodup (D9 ht)) (fz.mpr ⟨D3.mpr hlt,D.idem t⟩);rw [(D.cc (DH hlt ht) ht).mpr (D.idem t),h] at hg;exact nomatch hg
theorem DL.get{N:Nat}{cls ae:Nat->Nat}(D:DL N cls ae){t:Nat}(ht:t < N):aB (dv ae (bV cls (DV t ++ [t]))) (.int (ae t:Nat))=some (.int (cls t:Nat)):=by
 rw [← Gu,← (D.cc (DC (D.le t) ht) ht).mpr (D.idem t)];exact kr (D.nodup (Le ht)) (fz.mpr ⟨D3.mpr (H7 (D.le t)),D.idem t⟩)
theorem CZ{nd:av}(N:bP nd){cls ae:Nat->Nat}(D:DL nd.length cls ae){k:Nat}(hk:k < nd.length)(hc:cls k=k){v:Int}{σ:aa}{K:Bool->Prop}(h:K !(fy nd cls k v)):bc σ K .NotEq ((aB (lD nd ae) (.tup [.str (bK v)])).getD .none) (.int (ae k:Nat)):=by
 by_cases hex:∃m:Nat,nd[m]? = some (bK v,[])
 · refine hex.elim λm hm=>?_;have q:=(qZ N).mpr hm;have hg:=fV N (ae:=ae) q.1;rw [q.2] at hg;rw [hg];refine fN ?_;by_cases e:ae m=ae k
   · rw [dp.mpr ⟨m,hm,((D.cc q.1 hk).mp e).trans hc⟩] at h;rw [bne_eq_false_iff_eq.mpr e];exact h
   · rw [FQ.mpr λh=>(dp.mp h).elim λm' q'=>e ((D.cc q.1 hk).mpr (((G1 q.1 N.nodup).mp (hm.trans q'.1.symm)).symm▸q'.2.trans hc.symm))] at h;rw [bne_iff_ne.mpr e];exact h
 · rw [FQ.mpr λh=>(dp.mp h).elim λm q=>hex ⟨m,q.1⟩] at h;rw [dD (d:=lD nd ae) (x:=.tup [.str (bK v)]) λkv hm e=>(DO.mp hm).elim λx q=>hex ⟨x,(qZ N).mp ⟨D3.mp q.1,(congrArg Jd q.2).trans e⟩⟩];refine .ne (.pl rfl rfl (Eo _) ?_);rw [show aG ((none:Option PV).getD .none) (.int (ae k:Nat))=false from aC nofun];exact h
structure DB(σ:aa)(nd:av)(ae:Nat->Nat)(a m m2 m3:Nat)(kw:List Nat)(fw:Nat->Va)(l:List Nat)(σ':aa):Prop where
 r:Ro σ σ'
 a:σ' (.loc a)=some (.list ((DV nd.length).map (tm nd)))
 lb:σ' (.loc m)=some (.dict (lD nd ae))
 w:σ' (.loc m2)=some (.dict (vD kw fw))
 d:σ' (.loc m3)=some (.dict (dv ae l))
section
variable {σ:aa} {nd:av} {ae:Nat->Nat} {a m m2 m3:Nat} {kw:List Nat} {fw:Nat->Va} {l:List Nat} {σ' σ'':aa} (B:DB σ nd ae a m m2 m3 kw fw l σ')
include B
theorem DB.ro(r:Ro σ' σ''):DB σ nd ae a m m2 m3 kw fw l σ'':=⟨B.r.trans r,r.keepL B.a,r.keepL B.lb,r.keepL B.w,r.keepL B.d⟩
end
@[reducible] noncomputable def tw:Ss:=
 (.cons (.ite (.bool .Or (.cons (.cmp (.meth (.var "keeper" ⟨355,11,355,17⟩) "value" ⟨355,11,355,23⟩ (.cons (.var "k" ⟨355,24,355,25⟩) .nil) ⟨355,11,355,26⟩) .NotEq (.meth (.var "worths" ⟨355,30,355,36⟩) "get" ⟨355,30,355,40⟩ (.cons (.sub (.var "labels" ⟨355,41,355,47⟩) (.var "t" ⟨355,48,355,49⟩) ⟨355,41,355,50⟩) .nil) ⟨355,30,355,51⟩) ⟨355,11,355,51⟩) (.cons (.cmp (.meth (.var "heap" ⟨355,55,355,59⟩) "find" ⟨355,55,355,64⟩ (.cons (.var "k" ⟨355,65,355,66⟩) .nil) ⟨355,55,355,67⟩) .NotEq (.sub (.var "leasts" ⟨355,71,355,77⟩) (.sub (.var "labels" ⟨355,78,355,84⟩) (.var "t" ⟨355,85,355,86⟩) ⟨355,78,355,87⟩) ⟨355,71,355,88⟩) ⟨355,55,355,88⟩) .nil)) ⟨355,11,355,88⟩)
  (.cons (.ret (.cst .none 0 ⟨356,19,356,23⟩) ⟨356,12,356,23⟩)
  .nil)
   .nil ⟨355,8,356,23⟩)
  .nil)
theorem yu{c:Cx}(G:Gd c)(P:aD c){σ0 σ:aa}{nd:av}{cls ae:Nat->Nat}{eqs:List (Nat×Nat)}{n i:Nat}{ks kw l:List Nat}{f fw:Nat->Va}{told:List (PV×PV)}{a m m2 m3 t:Nat}(H:bM σ nd nd.length cls)(K:bv σ n i ks f told)(N:bP nd)(B:DB σ0 nd ae a m m2 m3 kw fw l σ)(V:pM nd eqs n kw fw)
 (htN:t < nd.length) (hv:f (cls t)=fw (ae t)) (hg:aB (dv ae l) (.int (ae t:Nat))=some (.int (cls t:Nat))) {ρ:af}
 (u5:ρ "keeper" = some (.ref .keeper)) (u6:ρ "worths" = some (.ref (.loc m2))) (u2:ρ "labels" = some (.ref (.loc m))) (u8:ρ "t" = some (tm nd t)) (u7:ρ "k" = some (.int (t:Nat))) (u4:ρ "heap" = some (.ref .heap)) (u3:ρ "leasts" = some (.ref (.loc m3))) {Qn:af->aa->Prop} {Qr:PV->aa->Prop}
 (hQ:Qn ρ σ) {k:Nat}:eC (aj c) (k+3) tw ρ σ Qn Qr:=
 have hdk:DK (lD nd ae) (tm nd t):=kq N (N.tm _ htN) (N.depth htN)
 ⟨_,u5,_,aL K.kp rfl rfl,_,u7,mE G P H K htN ⟨_,u6,_,iR B.w rfl,_,u2,_,u8,bz B.lb hdk (fV N htN) (ki B.w V.nodup V.out (yh (hZ (congrArg Ga (decide_eq_true hv)) ⟨_,u4,_,aL H.h rfl rfl,_,u7,
  bF G P H htN ⟨_,u3,_,u2,_,u8,bz B.lb hdk (fV N htN) (bz B.d (mL _ _ _) hg (fN (hZ (bne_self_eq_false _) (iB rfl hQ))))⟩ (k+1)⟩)))⟩ k⟩
inductive tz(σ:aa)(nd:av)(cls:Nat->Nat)(a:Nat)(m:Nat)(ae:Nat->Nat)(m3:Nat)(m2:Nat)(kw:List Nat)(fw:Nat->Va)(post:List Nat)(ρ:af)(σ':aa):Prop
 | mk (pre:List Nat):DV nd.length=pre ++ post->ρ "terms" = some (.ref (.loc a))->ρ "labels" = some (.ref (.loc m))->ρ "leasts" = some (.ref (.loc m3))->ρ "heap" = some (.ref .heap)->ρ "keeper" = some (.ref .keeper)->ρ "worths" = some (.ref (.loc m2))->DB σ nd ae a m m2 m3 kw fw (bV cls pre) σ'->tz σ nd cls a m ae m3 m2 kw fw post ρ σ'
inductive tA(σ:aa)(nd:av)(cls:Nat->Nat)(f:Nat->Va)(a:Nat)(m:Nat)(ae:Nat->Nat)(m3:Nat)(m2:Nat)(kw:List Nat)(fw:Nat->Va)(L:List Nat)(m5:Nat)(p4:Nat)(post:List Nat)(ρ:af)(σ':aa):Prop
 | mk (pre:List Nat):L=pre ++ post->ρ "terms" = some (.ref (.loc a))->ρ "labels" = some (.ref (.loc m))->ρ "leasts" = some (.ref (.loc m3))->ρ "worths" = some (.ref (.loc m2))->ρ "due" = some (.ref (.loc m5))->DB σ nd ae a m m2 m3 kw fw L σ'->σ' (.loc p4)=some (.list (L.map λk=>PV.int (ae k:Nat)))->σ' (.loc m5)=some (.list ((bO nd cls f pre).map (cN nd)))->tA σ nd cls f a m ae m3 m2 kw fw L m5 p4 post ρ σ'
theorem q6{c:Cx}(G:Gd c)(P:aD c){σ:aa}{nd:av}{eqs:List (Nat×Nat)}{cls:Nat->Nat}{E S n i:Nat}{ks:List Nat}{f:Nat->Va}{tl:List PV}(R:dW σ nd eqs cls E S n i ks f tl){b:Nat}(hel:eqs.length < 1000)
 (hb:σ (.loc b)=some (.list (eqs.map λx=>.tup [tm nd x.1,tm nd x.2]))) {Q:PV->aa->Prop}
 (hQ:∀σ' m,Ro σ σ'->σ (.loc m)=none->σ' (.loc m)=some (.list ((bO nd cls f ((DV nd.length).filter λa=>cls a == a)).map (cN nd)))->Q (.ref (.loc m)) σ') (k:Nat) :
 aj c (k+4) .l_due [.ref .heap,.ref .keeper,.ref (.loc b),.int (n:Nat)] σ Q:=by
 have N:=R.H.ok.nd;have hsm:=N.small;have hn:=R.K.C.2;have he:∀x∈eqs,x.1 < nd.length/\x.2 < nd.length:=λx hx=>R.H.casesOn λ_ kn us _ C=>⟨(C.held x hx).1,(C.held x hx).2.1⟩;have hrl:(DV nd.length).length < ay:=by rw [Ez];exact au (DH hsm (by decide))
 refine aw G P .l_due rfl ⟨_,rfl,_,aL R.H.rd.h rfl rfl,wl G P R.H.rd (.mk ⟨EL _,EG.mpr (DH hsm (by decide)),?_⟩) (k+1)⟩;refine dg (ks:=DV nd.length) (tm nd) (λ_ _=>trivial) hrl (λx hx=>⟨_,rfl,λσ' hr P1 P0 hp1=>iT rfl ⟨_,rfl,_,(R.H.ro hr).rd.abank,_,aL (R.H.ro hr).rd.B.b rfl rfl,_,rfl,oB G P (R.H.ro hr).rd.B (D3.mp hx) (λσ'' hr''=>hp1 _ (hr.trans hr'')) (k+1)⟩⟩)
  λσ1 hr1=>bo λa σ2 r2 ha2=>⟨_,rfl,_,rfl,so G P N he hel ha2 ((hr1.trans r2).keepL hb) (λσ3 m ae hr3 hm hl3 hlab hcl=>dR λm3 σ4 hm3 u4=>⟨_,rfl,rfl,?_⟩) (k+2)⟩
 have r3:Ro σ σ3:=(hr1.trans r2).trans hr3;have hm30:=r3.none hm3;have r34:Ro σ3 σ4:=St.refl.upL hm3 u4;have ha4:=r34.keepL (hr3.keepL ha2);have hl4:=r34.keepL hl3;have ham3:=bh (hr3.keepL ha2) hm3;have hmm3:=bh hl3 hm3;refine ⟨_,rfl,_,rfl,_,rfl,sq G P N hn.1 hn.2 hlab ha4 hl4 (λσ5 m2 kw fw hr5 hm2 hf5 V hstw=>?_) (k+1)⟩;have hV:∀x,x < nd.length->f (cls x)=fw (ae x):=λx hx=>uX R hlab hcl he V.sound hstw hx;have D:DL nd.length cls ae:=⟨λhx hy=>(hcl.iff hlab he hx hy).trans R.H.iff.symm,R.H.rd.U.le,R.H.rd.U.idem⟩;have hm32:=bh u4.at_ hm2;have B5:DB σ nd ae a m m2 m3 kw fw (bV cls []) σ5:=⟨(r3.trans r34).trans hr5,hr5.keepL ha4,hr5.keepL hl4,hf5,hr5.keepL u4.at_⟩;clear hr1 r2 ha2 hr3 hm hl3 hlab hcl hm3 u4 r3 r34 ha4 hl4 hr5 hm2 hf5 hstw hb hel he;refine ⟨_,rfl,.li B5.a ((DD _).symm▸hrl) ?_⟩;rw [tg];refine br (λk=>PV.tup [.int (k:Nat),tm nd k]) (tz σ nd cls a m ae m3 m2 kw fw) (λt post ρ σ6 I=>I.casesOn λpre er v1 v2 v3 v4 v5 v6 B=>⟨B.a,_,rfl,λP' hP'=>?_⟩) (λρ σ6 I=>I.casesOn λpre er v1 v2 v3 v4 v5 v6 B=>⟨B.a,?_⟩) (DV nd.length) _ _
  (.mk [] rfl rfl rfl rfl rfl rfl rfl B5)
 · have hs:=sr er;have htN:=hs.1;have er2:=er.trans (Fl pre t post);rw [hs.2] at B er2;have hdk:DK (lD nd ae) (tm nd t):=kq N (N.tm _ htN) (N.depth htN);have hrest:∀{σ7},DB σ nd ae a m m2 m3 kw fw (bV cls (DV t ++ [t])) σ7->eC (aj c) (k+3) tw ((ρ.put "k" (.int (t:Nat))).put "t" (tm nd t)) σ7 P' Q:=λ{σ7} B=>
    yu (ρ:=(ρ.put "k" (.int (t:Nat))).put "t" (tm nd t)) G P (R.H.ro B.r).rd (R.K.ro B.r) N B V htN (hV t htN) (D.get htN) v5 v6 v2 rfl rfl v4 v3 (hP' _ _ (.mk _ er2 v1 v2 v3 v4 v5 v6 B))
   have hrl:(dv ae (bV cls (DV t))).length < ay:=by rw [dv,DD];exact au (DC (Fm _ _) (by rw [Ez];exact DH htN (DH hsm (by decide))))
   refine ⟨_,v3,_,iR B.d rfl,_,v2,_,rfl,bz B.lb hdk (fV N htN) ⟨_,rfl,th B.d (mL _ _ _) hrl (λz hz=>hrest (D.hit htN hz▸B)) λhz σ7 u=>hrest ?_⟩⟩;have e:dv ae (bV cls (DV t)) ++ [(.int (ae t:Nat),.int (t:Nat))]=dv ae (bV cls (DV t ++ [t])):=by rw [D.new htN hz,dv,dv,D4];rfl
   rw [e] at u;exact ⟨B.r.upL hm30 u,(u.ne _ ham3).trans B.a,(u.ne _ hmm3).trans B.lb,(u.ne _ hm32.symm).trans B.w,u.at_⟩
 · rw [Eg] at er;rw [← er] at B;have hLm:∀x,x∈bV cls (DV nd.length)↔x < nd.length/\cls x=x:=λx=>by rw [fz,D3]
   have hLs:(bV cls (DV nd.length)).Pairwise (· < ·):=Fw _ Gk;have hLlab:=D.nodup (DQ nd.length);have hQ:∀σ' m,Ro σ σ'->σ (.loc m)=none->σ' (.loc m)=some (.list ((bO nd cls f (bV cls (DV nd.length))).map (cN nd)))->Q (.ref (.loc m)) σ':=hQ;refine ⟨_,v5,_,aL (R.K.ro B.r).kp rfl rfl,qQ G P (R.H.ro B.r).rd (R.K.ro B.r) (λσ7 p1 hr7 hp1=>?_) k⟩;have hp1:σ7 (.loc p1)=some (.list (ai ((bV cls (DV nd.length)).filter λa=>decide (f a=.bad)))):=hp1;generalize bV cls (DV nd.length)=L at B hLm hLs hLlab hQ hp1;have hLl:L.length < 60:=DC (aM (hLs.imp λh=>D1 h) λx hx=>((hLm x).mp hx).1) hsm;have hfk:∀x∈L,f x=fw (ae x):=λx hx=>by
    have q:=(hLm x).mp hx;have:=hV x q.1;rw [q.2] at this;exact this
   have B7:=B.ro hr7;have hk1:a6 ((dv ae L).map (·.1))=some ((L.map ae).map λ(x:Nat)=>(x:Int)):=by rw [← bk,dv,ai,Ea,Ea];rfl
   have hk2:a6 ((dv ae L).map (·.2))=some (L.map λ(x:Nat)=>(x:Int)):=by rw [← bk,dv,ai,Ea];rfl
   have hvg:∀x,(aB (vD kw fw) (.int (ae x:Nat))).getD .none=(fw (ae x)).pv:=λx=>wz V.nodup V.out;have hll:(dv ae L).length < 60:=by rw [dv,DD];exact hLl
   have hsel:(((dv ae L).filter λkv=>aG ((aB (vD kw fw) kv.1).getD .none) (.str (Dy "clash"))).map (·.2))=ai (L.filter λx=>decide (f x=.bad)):=by
    rw [dv,GU,Ea];refine congrArg (Jb _) (List.filter_congr λx hx=>?_);show aG ((aB (vD kw fw) (.int (ae x:Nat))).getD .none) Va.bad.pv=_;rw [hvg,hfk x hx];by_cases e:fw (ae x)=.bad
    · rw [e,aJ];rfl
    · rw [aC λh=>e (Va.pv_inj h),decide_eq_false e]
   refine .mk (.loc m3) (.loc m2) (dv ae L) (vD kw fw) v3 v6 B7.d B7.w (au (DH hll (by decide))) ⟨_,hk1⟩ (λkv hkv=>(DO.mp hkv).elim λx q=>q.2▸⟨kh _ _ _,mL _ _ _,kr hLlab q.1,(hvg x).symm▸Va.plain _,by rw [hvg,Va.depth];decide⟩) ?_;rw [hsel];have hcs:(L.filter λx=>decide (f x=.bad)).Pairwise (· < ·):=Fw _ hLs;have hcl2:(L.filter λx=>decide (f x=.bad)).length < 60:=DC (Fm _ _) hLl;generalize (L.filter λx=>decide (f x=.bad))=CL at hp1 hcs hcl2;refine bo λp2 σ8 r8 l8=>nz l8 (DH hcl2 (by decide)) λr hrp hrs=>?_;rw [gk (iz hrs (hrp.nodup_iff.mpr (hcs.imp λh=>D1 h))) hcs λx=>hrp.mem_iff];refine bo λp3 σ9 r9 l9=>.ne (.li (r9.keepL (r8.keepL hp1)) l9 (jY _) (jY _) (by rw [gG];decide) (iB (congrArg Ga (aJ _)) (dR λm5 τ hm5 u5=>⟨_,v3,?_⟩)));have B9:=(B7.ro r8).ro r9;have hm50:=B9.r.none hm5;have ham5:=bh B9.a hm5;have hmm5:=bh B9.lb hm5;have hm25:=bh B9.w hm5;have hm35:=bh B9.d hm5;have Bt:=B9.ro (St.refl.upL hm5 u5);refine .mk _ _ Bt.d hk1 hk2 (DH hll (by decide)) λr2 hp hs=>?_;rw [show ((L.map ae).map λ(x:Nat)=>(x:Int)).zip (L.map λ(x:Nat)=>(x:Int))=L.map λx=>((ae x:Int),(x:Int)) by rw [Ea,List.zip_map'];rfl] at hp;rw [qY hLs hp hs,Ea];refine dR λp4 υ hp4 u4=>cz u4.at_ (by rw [DD];exact au (DH hLl (by decide))) ?_;have h54:=bh u5.at_ hp4;have rt:Ro τ υ:=St.refl.upL hp4 u4;refine br (λk=>PV.int (ae k:Nat)) (tA σ nd cls f a m ae m3 m2 kw fw L m5 p4) (λk0 post ρ3 σa I=>I.casesOn λpre eL y1 y2 y3 y4 y5 B hqa hdu=>⟨hqa,_,rfl,λP' hP'=>?_⟩) (λρ3 σa I=>I.casesOn λpre eL y1 y2 y3 y4 y5 B hqa hdu=>⟨hqa,⟨_,y5,?_⟩⟩) L _ _
    (.mk [] rfl v1 v2 v3 v6 rfl (Bt.ro rt) u4.at_ (rt.keepL u5.at_))
   · have hk0L:k0∈L:=eL▸D0 _ (.head _);have hk0:=(hLm k0).mp hk0L;have hpl:pre.length < 60:=DC (by rw [eL,DG];exact Ed _ _) hLl;have eL2:=eL.trans (Fl pre k0 post);have hskip:du nd cls f k0=none->P' (ρ3.put "late" (.int (ae k0:Nat))) σa:=λh=>hP' _ _ (.mk _ eL2 y1 y2 y3 y4 y5 B hqa (by rw [oK h];exact hdu));refine ⟨_,y4,_,iR B.w rfl,_,rfl,ki B.w V.nodup V.out ?_⟩;have hfk0:=hfk k0 hk0L;have hno:(∀v,fw (ae k0)≠.num v)->du nd cls f k0=none:=λh=>jd (hfk0▸h);cases hfv:fw (ae k0) with
     | non=>rw [hfv] at hno;exact .no (.mk (zt rfl (iB rfl (hskip (hno nofun)))))
     | bad=>rw [hfv] at hno;exact .str (.mk (zt rfl (iB rfl (hskip (hno nofun)))))
     | num v=>
      clear hno;have hvok:=V.ok (ae k0) v hfv;have hv7:v < 7:=Jf hvok.2 (HZ.mpr hn.2);have hvb:v.natAbs < 2 ^ 60:=by clear hskip hfk;lia
      have hkw:ae k0∈kw:=FZ λh=>nomatch (V.out _ h).symm.trans hfv;have hws:=wA (f:=fw) V.nodup hkw;rw [hfv] at hws;have hdat:=ia (nd:=nd) (cls:=cls) (hfk0.trans hfv);refine .int (.mk (BK rfl ⟨_,y2,_,iR B.lb rfl,_,y4,_,rfl,bz B.w (kh _ _ _) hws (km hvb (.get B.lb (kq N (tv hvok.1 hv7) (EZ rfl)) ⟨_,rfl,CZ N D hk0.1 hk0.2 ?_⟩))⟩));by_cases hlk:fy nd cls k0 v=true
      · exact zt (congrArg Ga hlk) (iB (congrArg Ga hlk) (hskip (hdat.trans (if_pos hlk))))
      · have hlk':=FQ.mpr hlk;refine BK (congrArg Ga hlk') (iT rfl ⟨_,y5,_,fe hdu rfl,_,y1,_,y3,_,rfl,bz B.d (mL _ _ _) (kr hLlab hk0L) (bH B.a (DH hk0.1 (DH hsm (by decide))) (x:=tm nd k0) (by rw [Ef,Gg hk0.1];rfl)
         ⟨_,y4,_,rfl,bz B.w (kh _ _ _) hws (km hvb (ke hdu (by rw [DD];exact au (DC (GA _ _) (DH hpl (by decide)))) λσb u=>hP' _ _ ?_))⟩)⟩)
        exact .mk _ eL2 y1 y2 y3 y4 y5 ⟨B.r.upL hm50 u,(u.ne _ ham5).trans B.a,(u.ne _ hmm5).trans B.lb,(u.ne _ hm25).trans B.w,(u.ne _ hm35).trans B.d⟩ ((u.ne _ h54.symm).trans hqa) (by rw [ib (hdat.trans (if_neg hlk)),D4];exact u.at_)
   · rw [Eg] at eL;exact hQ _ m5 B.r hm50 (eL▸hdu)
abbrev NL(σ σ':aa):Prop:=∀p,p.isLoc=false->σ' p=σ p
theorem bG.of_nl{σ σ':aa}{nd:av}{eqs:List (Nat×Nat)}{cls:Nat->Nat}{E S:Nat}(H:bG σ nd eqs cls E S)(h:NL σ σ'):bG σ' nd eqs cls E S:=H.of_eq λp hp=>h p hp.loc
theorem bv.of_nl{σ σ':aa}{n i:Nat}{ks:List Nat}{f:Nat->Va}{told:List (PV×PV)}(K:bv σ n i ks f told)(h:NL σ σ'):bv σ' n i ks f told:=K.of_eq λp hp=>h p hp.loc
theorem gQ.nl{a:Nat}{σ σ':aa}(h:gQ a σ σ'):NL σ σ':=λp hp=>h p (jV hp) (.inl hp)
theorem gQ.keepL{a n:Nat}{σ σ':aa}{o:PO}(h:gQ a σ σ')(hn:al.loc n≠.loc a)(ho:σ (.loc n)=some o):σ' (.loc n)=some o:=(h _ hn (.inr (ho▸Eh o))).trans ho
theorem bL.nl{σ σ':aa}{n:Nat}{o:PO}(u:bL σ (.loc n) o σ'):NL σ σ':=λp hp=>u.ne p (jV hp)
theorem dW.ro{σ σ':aa}{nd:av}{eqs:List (Nat×Nat)}{cls:Nat->Nat}{E S n i:Nat}{ks:List Nat}{f:Nat->Va}{tl:List PV}(R:dW σ nd eqs cls E S n i ks f tl)(h:Ro σ σ'):dW σ' nd eqs cls E S n i ks f tl:=
 ⟨R.H.ro h,R.K.ro h,R.hks,R.hS,R.hst⟩
noncomputable def uY(nd:av)(t:PV):Prop:=∃n s,n < nd.length/\tm nd n=t/\iC 3 t s
theorem uY.mono{nd e:av}{t:PV}(h:uY nd t):uY (nd ++ e) t:=h.imp λn h=>h.imp λs q=>⟨by rw [DG];exact DI q.1 (Ed _ _),(dE _ _ q.1).trans q.2.1,q.2.2⟩
theorem uZ{nd:av}{cls:Nat->Nat}{f:Nat->Va}{y:Nat}{x:Nat×Int}(e:du nd cls f y=some x):∃v,f y=.num v/\(y,v)=x:=by
 by_cases h:∃v,f y=.num v
 · refine h.imp λv hv=>⟨hv,?_⟩;rw [ia hv] at e;by_cases hl:fy nd cls y v=true
   · rw [if_pos hl] at e;exact nomatch e
   · rw [if_neg hl] at e;exact DN e
 · exact nomatch (jd λv hv=>h ⟨v,hv⟩).symm.trans e
theorem wV{σ:aa}{nd:av}{eqs:List (Nat×Nat)}{cls:Nat->Nat}{E S n i:Nat}{ks:List Nat}{f:Nat->Va}{tl:List PV}(R:dW σ nd eqs cls E S n i ks f tl){z:PV}{l:List Nat}(hl:∀y∈l,y < nd.length)(hx:z∈(bO nd cls f l).map (cN nd)):plain z=true/\aK z<=8:=
 (DO.mp hx).elim λx q=>(HC.mp q.1).elim λy q'=>(uZ q'.2).elim λv g=>by
  have N:=R.H.ok.nd;have hok:=R.K.ok y v g.1;have h1:=tv hok.1 (Jf hok.2 (HZ.mpr R.K.C.2.2));rw [← q.2,← g.2];exact ⟨DP.mpr ⟨(mF (N.tm y (hl y q'.1))).2,DP.mpr ⟨(mF h1).2,rfl⟩⟩,Ei (JN.mpr ⟨DM (N.w.2 y (hl y q'.1)) (by decide),EZ rfl⟩)⟩
theorem wW{l:List PV}(h:∀x∈l,aK x<=8):aP l<=8:=by
 induction l with
 | nil=>exact Eo _
 | cons x r ih=>exact JN.mpr ⟨h x (.head _),ih λy hy=>h y (.tail _ hy)⟩
theorem yv{l:List PV}{n:Nat}(h:l.length=n):(DV n).map (λk=>l.getD k .none)=l:=
 JE (by rw [DD,Ez,h]) λp hp hq=>by rw [GI,I7,EA,DW hq];rfl
theorem Ar(x y:Str):x.length+y.length=(x ++ y).length:=Array.size_append.symm
theorem dW.weakE{σ:aa}{nd:av}{eqs:List (Nat×Nat)}{cls:Nat->Nat}{E S n i E':Nat}{ks:List Nat}{f:Nat->Va}{tl:List PV}(R:dW σ nd eqs cls E S n i ks f tl)(hE:E<=E')(h4:E' < 4000):dW σ nd eqs cls E' S n i ks f tl:=
 ⟨R.H.casesOn λw kn us H C=>⟨w,kn,us,H.weakE hE h4,C⟩,R.K,R.hks,R.hS,R.hst⟩
theorem u0{c:Cx}(G:Gd c)(P:aD c){σ:aa}{nd:av}{eqs:List (Nat×Nat)}{cls:Nat->Nat}{E S:Nat}(H:cP σ nd eqs cls E S){Q:PV->aa->Prop}(hQ:Q (.bool true) σ)(k:Nat):aj c (k+1) .h_is_settled [.ref .heap] σ Q:=
 H.casesOn λw kn us H C=>mz G P H hQ k
theorem iE{N:Nat}(f:Nat->PV){chk:aa->Prop}{t:Tg}{body:af->aa->(af->aa->Prop)->(PV->aa->Prop)->Prop}{Qn:af->aa->Prop}{Qr:PV->aa->Prop}(I:Nat->af->aa->Prop)
 (step:∀j ρ σ,j < N->I j ρ σ->chk σ/\∃ρ',t.bind (f j) ρ=some ρ'/\∀P:af->aa->Prop,(∀ρ'' σ'',I (j+1) ρ'' σ''->P ρ'' σ'')->body ρ' σ P Qr)
 (fin:∀ρ σ,I N ρ σ->chk σ/\Qn ρ σ) (ρ:af) (σ:aa) (h:I 0 ρ σ):gi chk t body ((DV N).map f) ρ σ Qn Qr:=by
 rw [ID];refine br f (λr ρ σ=>∃j,j+r.length=N/\r=MF j r.length/\I j ρ σ) (λx r ρ σ h=>h.elim λj q=>?_) (λρ σ h=>h.elim λj q=>fin ρ σ (q.1▸q.2.2)) _ ρ σ ⟨0,by rw [KM,FK],by rw [KM],h⟩;have e:=ES (q.2.1.trans (List.range'_succ ..));rw [e.1];exact (step j ρ σ (q.1▸FN (FB _)) q.2.2).imp_right λh=>h.imp λρ' p=>⟨p.1,λP hP=>p.2 P λρ'' σ'' hI=>hP ρ'' σ'' ⟨j+1,(Ih _ _).trans q.1,e.2,hI⟩⟩
structure LR(a0 d0 e0 n:Nat)(ρ:af):Prop where
 t:ρ "tape" = some (.ref (.loc a0))
 h:ρ "heap" = some (.ref .heap)
 d:ρ "told" = some (.ref (.loc d0))
 n:ρ "n" = some (.int (n:Nat))
 k:ρ "keeper" = some (.ref .keeper)
 s:ρ "some" = some (.ref (.loc e0))
structure LB(a0 b0 d0 e0 m:Nat)(nd:av)(eqs:List (Nat×Nat))(cls:Nat->Nat)(E S n i:Nat)(ks:List Nat)(f:Nat->Va)(ts dl:List PV)(σ:aa):Prop where
 e:σ (.loc e0)=some (.list ts)
 d:σ (.loc d0)=some (.list dl)
 T:ba σ a0 b0 m
 H:bG σ nd eqs cls E S
 K:bv σ n i ks f []
section
variable {a0 b0 d0 e0 m:Nat} {nd:av} {eqs:List (Nat×Nat)} {cls:Nat->Nat} {E S n i:Nat} {ks:List Nat} {f:Nat->Va} {ts dl:List PV} {σ σ':aa} (B:LB a0 b0 d0 e0 m nd eqs cls E S n i ks f ts dl σ)
include B
theorem LB.dip(hea:al.loc e0≠.loc a0)(hda:al.loc d0≠.loc a0){m':Nat}(t:gQ a0 σ σ')(T:ba σ' a0 b0 m'):LB a0 b0 d0 e0 m' nd eqs cls E S n i ks f ts dl σ':=⟨t.keepL hea B.e,t.keepL hda B.d,T,B.H.of_nl t.nl,B.K.of_nl t.nl⟩
theorem LB.heap{nd':av}{eqs':List (Nat×Nat)}{cls':Nat->Nat}{E' S':Nat}(t:St bp σ σ')(H:bG σ' nd' eqs' cls' E' S'):LB a0 b0 d0 e0 m nd' eqs' cls' E' S' n i ks f ts dl σ':=⟨t.keepL B.e,t.keepL B.d,B.T.st t,H,B.K.heap t⟩
theorem LB.keep{i':Nat}{ks':List Nat}{f':Nat->Va}(t:St cf σ σ')(K:bv σ' n i' ks' f' []):LB a0 b0 d0 e0 m nd eqs cls E S n i' ks' f' ts dl σ':=⟨t.keepL B.e,t.keepL B.d,B.T.st t,B.H.keeper t,K⟩
theorem LB.upE(hea:e0≠a0)(heb:e0≠b0)(hed:al.loc d0≠.loc e0){ts':List PV}(u:bL σ (.loc e0) (.list ts') σ'):LB a0 b0 d0 e0 m nd eqs cls E S n i ks f ts' dl σ':=⟨u.at_,(u.ne _ hed).trans B.d,B.T.up hea heb u,B.H.of_nl u.nl,B.K.of_nl u.nl⟩
theorem LB.upD(hda:d0≠a0)(hdb:d0≠b0)(hed:al.loc d0≠.loc e0){dl':List PV}(u:bL σ (.loc d0) (.list dl') σ'):LB a0 b0 d0 e0 m nd eqs cls E S n i ks f ts dl' σ':=⟨(u.ne _ hed.symm).trans B.e,u.at_,B.T.up hda hdb u,B.H.of_nl u.nl,B.K.of_nl u.nl⟩
end
inductive re(b0:Nat)(a0:Nat)(d0:Nat)(n:Nat)(e0:Nat)(j:Nat)(ρ:af)(σ':aa):Prop
 | mk (ts:List PV) (nd:av) (cls:Nat->Nat):LR a0 d0 e0 n ρ->ts.length=j->LB a0 b0 d0 e0 (2+16*j) nd [] cls (7*j) (7*j) n 0 [] (λ_=>.non) ts [] σ'->nd.length<=7*j->(∀t∈ts,uY nd t)->re b0 a0 d0 n e0 j ρ σ'
inductive rg(b0:Nat)(a0:Nat)(d0:Nat)(n:Nat)(e0:Nat)(ts:List PV)(nd:av)(j:Nat)(ρ:af)(σ':aa):Prop
 | mk (eqs:List (Nat×Nat)) (cls:Nat->Nat) (i:Nat) (ks:List Nat) (f:Nat->Va):LR a0 d0 e0 n ρ->eqs.length=j->LB a0 b0 d0 e0 (100+3*j) nd eqs cls (28+j) 28 n i ks f ts (eqs.map λx=>.tup [tm nd x.1,tm nd x.2]) σ'->(∀c∈ks,c < nd.length)->bj nd eqs n f->rg b0 a0 d0 n e0 ts nd j ρ σ'
inductive rh(n:Nat)(j:Nat)(ρ:af)(σ':aa):Prop
 | mk (nd:av) (eqs:List (Nat×Nat)) (cls:Nat->Nat) (i:Nat) (ks:List Nat) (f:Nat->Va) (tl:List PV) (d1:Nat):ρ "heap" = some (.ref .heap)->ρ "n" = some (.int (n:Nat))->ρ "keeper" = some (.ref .keeper)->ρ "told" = some (.ref (.loc d1))->σ' (.loc d1)=some (.list (eqs.map λx=>.tup [tm nd x.1,tm nd x.2]))->nd.length<=28+7*j->eqs.length<=10+60*j->tl.length<=60*j->
  dW σ' nd eqs cls (40+200*j) 28 n i ks f tl->rh n j ρ σ'
theorem BX{c:Cx}(G:Gd c)(P:aD c){σ:aa}{s0:Nat}{script:List Int}(hs:σ (.loc s0)=some (.froz (script.map .int)))(hsl:script.length < 1000)(h0:∀p,p.isLoc=false->σ p=none){ρ:af}(hρ:ρ "script" = some (.ref (.loc s0))){Qn:af->aa->Prop}{Qr:PV->aa->Prop}
 (hQ:∀σ',Qr (.bool true) σ'):eC (aj c) 30 ll ρ σ Qn Qr:=by
 refine ⟨_,hρ,by decide,by decide,.fr hs (by rw [DD];exact au (DH hsl (by decide))) (bo λn0 σ1 hr1 hq1=>?_)⟩;rw [show (script.map PV.int).take (50:Int).toNat=(script.take 50).map PV.int from List.map_take.symm] at hq1;have h50:(script.take 50).length<=50:=List.length_take_le _ _;have h50b:(script.take 50).length < ay:=au (DC h50 (by decide));refine cz hq1 ((DD _).symm▸h50b) (d7 PV.int (λi=>PV.int ((i.fmod 9973).toNat:Nat)) (λσ' hr=>hr.keepL hq1) h50b (λi hi=>⟨_,rfl,λσ' hr P1 P0 hp1=>iT rfl ⟨_,af.put_self _ _ _,.intI (.mod (by decide) ?_)⟩⟩) λσ2 hr2=>?_)
 · have:=hp1 _ hr;rw [Ge (Ig i (by decide))] at this;exact this
 have hcsl:((script.take 50).map λi=>(i.fmod 9973).toNat).length<=50:=(DD _).symm▸h50;rw [show (script.take 50).map (λi=>PV.int ((i.fmod 9973).toNat:Nat))=ai ((script.take 50).map λi=>(i.fmod 9973).toNat) by rw [ai,Ea];rfl];generalize ((script.take 50).map λi=>(i.fmod 9973).toNat)=cs at hcsl;refine bo λb0 σ' rb lb=>dR λa0 σ3 ha0 u3=>?_;have hba:=bh lb ha0;have T3:ba σ3 a0 b0 0:=⟨cs,0,u3.at_,(u3.ne _ hba).trans lb,λe=>hba (congrArg _ e.symm),hcsl,DQ _⟩;have h03:∀p,p.isLoc=false->σ3 p=none:=λp hp=>(u3.nl p hp).trans ((Ro.at (hr1.trans (hr2.trans rb)) hp).trans (h0 p hp));clear hq1 h50 h50b hcsl u3 lb rb hr2 hr1 hs h0 ha0 hba;have uh:=upd σ3 .heap (.inst .heap []);refine ⟨29,rfl,.heap,h03 _ rfl,?_⟩;generalize σ3.set .heap _=υ at uh ⊢;refine wx G P uh.at_ (λp hp hne=>(uh.ne _ hne).trans (h03 p hp.loc)) (λσ4 t4 H4=>⟨rfl,dR λd0 σ5 hd0 u5=>⟨_,rfl,rfl,?_⟩⟩) 26;have tu:St hO σ3 υ:=uh.st rfl (.inr (.inl rfl));have T4:ba σ4 a0 b0 0:=(T3.st tu).st t4;have hda:=(T4.ne hd0).1;have hdb:=(T4.ne hd0).2;have hdaL:al.loc d0≠.loc a0:=λe=>hda (al.loc.inj e);have k5:∀p,p.isLoc=false->¬hO p->σ5 p=none:=λp h1 h2=>(u5.nl p h1).trans ((t4.oth p h1 h2).trans ((uh.ne p λe=>h2 (.inr (.inl e))).trans (h03 p h1)));have T5:=T4.up hda hdb u5;have H5:=H4.ok.of_nl u5.nl;have hd5:=u5.at_;clear tu T4 u5 uh t4 H4 T3 h03 hd0;refine ⟨_,rfl,dH G P T5 (by decide) (many:=6) (by decide) (λv σ6 hv t6 T6=>.addI ?_) 29⟩;rw [show (2:Int)+((v:Nat):Int)=((2+v:Nat):Int) from rfl];have hn2:2<=2+v:=Ed _ _;have hn7:2+v<=7:=EF (FS hv) 2;generalize 2+v=n at hn2 hn7;have H6:=H5.of_nl t6.nl;have k6:∀p,p.isLoc=false->¬hO p->σ6 p=none:=λp h1 h2=>(t6.nl p h1).trans (k5 p h1 h2);have hd6:=t6.keepL hdaL hd5;clear H5 k5 hd5 t6 T5 hv;have u7:=upd σ6 .consts (.inst .consts []);refine ⟨_,rfl,_,rfl,29,rfl,.consts,k6 _ rfl λh=>h.notK (.inr (.inl rfl)),?_⟩;generalize σ6.set .consts _=σ7 at u7 ⊢;have u7':=upd σ7 .consts (.inst .consts [("n",.int (n:Nat))]);refine wB G P (n:=n) u7.at_ ⟨rfl,?_⟩ 28;generalize σ7.set .consts _=σ7' at u7' ⊢;have k7:∀p,p≠.consts->σ7' p=σ6 p:=λp hp=>(u7'.ne p hp).trans (u7.ne p hp);have u8:=upd σ7' .keeper (.inst .keeper []);refine ⟨29,rfl,.keeper,(k7 _ (by decide)).trans (k6 _ rfl λh=>h.notK (.inl rfl)),?_⟩;generalize σ7'.set .keeper _=σ8 at u8 ⊢;refine wC G P (n:=n) u8.at_ ⟨(u8.ne _ (by decide)).trans u7'.at_,hn2,hn7⟩ ((u8.ne _ (by decide)).trans ((k7 _ (by decide)).trans (k6 _ rfl λh=>h.notK (.inr (.inr (.inl rfl)))))) (λj=>(u8.ne _ (by nofun)).trans ((k7 _ (by nofun)).trans (k6 _ rfl λh=>h.notK (cf.vals j))))
  (λσ9 t9 K9=>⟨rfl,dR λe0 τ he0 ut=>⟨_,rfl,rfl,?_⟩⟩) 28
 have t69:St cf σ6 σ9:=(u7.st rfl (.inr (.inl rfl))).trans ((u7'.st rfl (.inr (.inl rfl))).trans ((u8.st rfl (.inl rfl)).trans t9));have hed:al.loc d0≠.loc e0:=bh (t69.keepL hd6) he0;have hen:=(T6.st t69).ne he0;have hea:al.loc e0≠.loc a0:=λe=>hen.1 (al.loc.inj e);have Bt:LB a0 b0 d0 e0 (0+1) [] [] (λx=>x) 0 0 n 0 [] (λ_=>.non) [] [] τ:=⟨ut.at_,(ut.ne _ hed).trans (t69.keepL hd6),(T6.st t69).up hen.1 hen.2 ut,(H6.keeper t69).of_nl ut.nl,K9.of_nl ut.nl⟩;clear u7 u7' k7 u8 t9 K9 ut t69 he0 H6 k6 hd6 T6;refine ⟨_,rfl,dH G P Bt.T (by decide) (many:=3) (by decide) (λlaps τ1 hlaps t1 T1=>.addI (.mk ⟨EL (2+laps),EG.mpr (by lia),?_⟩)) 29⟩;rw [show ((2:Int)+((laps:Nat):Int)).toNat=2+laps from rfl];refine iE (λ(i:Nat)=>.int (i:Nat)) (re b0 a0 d0 n e0) (λj ρ4 σa hj I=>I.casesOn λts nd cls R hts B hnd hin=>⟨trivial,_,rfl,λP' hP'=>?_⟩) (λρ4 σa I=>I.casesOn λts nd cls R hts B hnd hin=>⟨trivial,?_⟩) _ _
  (.mk [] [] _ ⟨rfl,rfl,rfl,rfl,rfl,rfl⟩ rfl (Bt.dip hea hdaL t1 T1) (DQ _) λ_ h=>absurd h DX)
 · have hj4:j < 4:=by lia
   refine ⟨_,R.s,_,fe B.e rfl,_,R.t,wK G P 26 2 _ σa _ B.T (by lia) λt s σb ht hs tb Tb=>ke (tb.keepL hea B.e) (by rw [hts];exact au (DH hj4 (by decide))) λσc uc=>?_⟩;have Bc:=(B.dip hea hdaL tb Tb).upE hen.1 hen.2 hed uc;have hs7:s<=7:=GO hs;refine ⟨_,R.h,_,aL Bc.H.rd.h rfl rfl,_,R.s,_,rfl,bH Bc.e (DH hj4 (by decide)) (x:=t) (hts▸gN ts t) ?_⟩;refine yd G P [] 22 3 t s σc nd cls _ _ _ Bc.H ht (by decide) (by lia) (by lia) (by lia) λn1 e σd cls' td Hd hel hn1 htm=>?_;have Bd:=Bc.heap td (Hd.weak (E':=7*(j+1)) (S':=7*(j+1)) (EF hs7 _) (by lia) (DM (Nat.sub_le _ _) (EF hs7 _)) (by lia));exact hP' _ _ (.mk (ts ++ [t]) (nd ++ e) cls' ⟨R.t,R.h,R.d,R.n,R.k,R.s⟩ (by rw [DG,hts];rfl) ⟨Bd.e,Bd.d,Bd.T.weak (by lia),Bd.H,Bd.K⟩ (by rw [DG];exact Gb hnd (DM hel hs7)) λu hu=>(Eb.mp hu).elim (λh=>(hin u h).mono) λh=>(DS.mp h).symm▸⟨n1,s,hn1,htm,ht⟩)
 · have hE0:7*(2+laps)<=28:=by lia
   have hl4:2+laps<=4:=EF (FS hlaps) 2;have hts2:0 < ts.length:=by lia
   have hts4:ts.length < 10000:=by lia
   have B:LB a0 b0 d0 e0 99 nd [] cls 28 28 n 0 [] (λ_=>.non) ts [] σa:=⟨B.e,B.d,B.T.weak (by lia),B.H.weak hE0 (by decide) hE0 (by decide),B.K⟩;clear hts hl4;have hnd:=DM hnd hE0;refine ⟨_,R.t,dH G P B.T (by decide) (many:=4) (by decide) (λlaps2 σb hl2 tb Tb=>.mk ⟨EL _,EG.mpr (DH hl2 (by decide)),?_⟩) 29⟩;refine iE (λ(i:Nat)=>.int (i:Nat)) (rg b0 a0 d0 n e0 ts nd) (λj ρ5 σc hj I=>I.casesOn λeqs cls i ks f R heq B hksc hSc=>⟨trivial,_,rfl,λP' hP'=>?_⟩) (λρ5 σc I=>I.casesOn λeqs cls i ks f R heq B hksc hSc=>⟨trivial,?_⟩) _ _
    (.mk [] _ 0 [] _ ⟨R.t,R.h,R.d,R.n,R.k,R.s⟩ rfl (B.dip hea hdaL tb Tb) (λ_ h=>absurd h DX) λw hw c=>.non)
   · have hj4:j < 4:=DH hj hl2;have hm:100+3*j < 1000:=by lia
     have hE:28+j+1 < 1000:=by lia
     refine ⟨_,R.s,_,R.t,_,R.s,cL B.e rfl hts4 (dH G P B.T (DH hm (by decide)) hts2 (λv1 σd hv1 td Td=>?_) 29)⟩;have Bd:=B.dip hea hdaL td Td;refine bH Bd.e (DH (DH hv1 hts4) (by decide)) (DW hv1) ⟨_,R.s,_,R.t,_,R.s,cL Bd.e rfl hts4 (dH G P Bd.T (DC hm (by decide)) hts2 (λv2 σe hv2 te Te=>?_) 29)⟩;have Be:=Bd.dip hea hdaL te Te;refine bH Be.e (DH (DH hv2 hts4) (by decide)) (DW hv2) ⟨_,rfl,rfl,?_⟩;refine (hin ts[v1] (E9 hv1)).elim λo1 q=>q.elim λsz1 q1=>(hin ts[v2] (E9 hv2)).elim λo2 q=>q.elim λsz2 q2=>?_;have ho1:=q1.2.1▸q1.2.2;have ho2:=q2.2.1▸q2.2.2;rw [← q1.2.1,← q2.2.1];refine ⟨_,R.d,_,fe Be.d rfl,_,rfl,_,rfl,ke Be.d (by rw [DD,heq];exact au (DH hj4 (by decide))) λσf uf=>?_⟩;have hdl:(eqs.map λx=>PV.tup [tm nd x.1,tm nd x.2]) ++ [.tup [tm nd o1,tm nd o2]]=(eqs ++ [(o1,o2)]).map λx=>PV.tup [tm nd x.1,tm nd x.2]:=by rw [D4];rfl
     rw [hdl] at uf;have Bf:=Be.upD hda hdb hed uf;clear Bd Be uf td te B hdl Td Te;refine ⟨_,R.h,_,aL Bf.H.rd.h rfl rfl,_,R.h,_,aL Bf.H.rd.h rfl rfl,_,rfl,jP G P (DC (Ei hnd) (by decide)) (DH (JF hE) (by decide)) (by decide) 22 3 o1 sz1 σf _ Bf.H ho1 q1.1 λσg hrg=>
      ⟨_,R.h,_,aL (Bf.H.ro hrg).rd.h rfl rfl,_,rfl,jP G P (DC (Ei hnd) (by decide)) (DH (JF hE) (by decide)) (by decide) 22 3 o2 sz2 σg _ (Bf.H.ro hrg) ho2 q2.1 λσh hrh=>?_⟩⟩
     have hnl:=(gP (kj (v:=(j:Int)) (EL _) (EG.mpr (DH hj4 (by decide)))).1).2;refine ⟨_,rfl,km (DH hj4 (by decide):j < 2 ^ 60) (.addS (au (DH (GE hnl _) (by decide))) (qL G P ((Bf.H.ro hrg).ro hrh) q1.1 q2.1 (DH hE (by decide)) (λcls2 σi r ti Hi _=>?_) 26))⟩;have Bi:=Bf.heap ((Ro.weak hrg).trans ((Ro.weak hrh).trans ti)) Hi;have hSi:bj nd (eqs ++ [(o1,o2)]) n f:=Eg nd▸hSc.mono (e:=[]) λx hx=>D7 _ hx;have heq2:(eqs ++ [(o1,o2)]).length=j+1:=by rw [DG,heq];rfl
     clear Bf hrg hrh ti Hi hSc heq;refine ⟨_,R.t,dH G P Bi.T (by lia) (many:=3) (by decide) (λv3 σj hv3 tj Tj=>eW (b:=0) ?_) 29⟩;have Bj:=Bi.dip hea hdaL tj Tj;clear Bi tj Tj;by_cases e3:v3=0
     · refine iT (beq_iff_eq.mpr e3) ⟨_,R.h,_,aL Bj.H.rd.h rfl rfl,jQ G P Bj.H (DH (JF hE) (by decide)) (λcls3 σk tk Hk=>?_) 25⟩;have Bk:=Bj.heap tk Hk.ok;refine ⟨_,R.k,_,aL Bk.K.kp rfl rfl,iD G P Hk Bk.K hksc hSi (λσl i' ks' f' tl Kl hksl hSl _=>?_) 24⟩;exact hP' _ _ (.mk (eqs ++ [(o1,o2)]) cls3 i' ks' f' ⟨R.t,R.h,R.d,R.n,R.k,R.s⟩ heq2 (Bk.keep tl Kl) hksl hSl)
     · exact iB (beq_eq_false_iff_ne.mpr e3) (hP' _ _ (.mk (eqs ++ [(o1,o2)]) cls2 i ks f ⟨R.t,R.h,R.d,R.n,R.k,R.s⟩ heq2 Bj hksc hSi))
   · have hE:28+laps2<=40:=by lia
     refine ⟨_,R.h,_,aL B.H.rd.h rfl rfl,jQ G P B.H (by lia) (λcls3 σk tk Hk=>?_) 25⟩;have Bk:=B.heap tk Hk.ok;refine ⟨_,R.k,_,aL Bk.K.kp rfl rfl,iD G P Hk Bk.K hksc hSc (λσl i' ks' f' tl Kl hksl hSl hstl=>.mk ⟨by decide,by decide,?_⟩) 24⟩;have R0:dW σl nd eqs cls3 40 28 n i' ks' f' []:=dW.weakE ⟨Hk.keeper tl,Kl,hksl,hSl,hstl⟩ hE (by decide);have hdl:=(Bk.keep tl Kl).d;have heq10:eqs.length<=10:=by lia
     clear Bk tl Kl hksl hSl hstl tk Hk B hksc hSc hE heq tb Tb hin hts2 hts4 hE0;refine iE (N:=2) (λ(i:Nat)=>.int (i:Nat)) (rh n) (λj ρ6 τa hj I=>I.casesOn λnd eqs cls i ks f tl d1 s2 s4 s5 s3 hd1 hnd heq htl R=>⟨trivial,_,rfl,λP' hP'=>?_⟩) (λρ6 τa I=>I.casesOn λnd eqs cls i ks f tl d1 s2 s4 s5 s3 hd1 hnd heq htl R=>⟨trivial,?_⟩) _ _
      (.mk nd eqs cls3 i' ks' f' [] d0 R.h R.n R.k R.d hdl hnd heq10 (DQ _) R0)
     · clear R0 hdl heq10;have hnd35:nd.length<=35:=by lia
       have heq70:eqs.length<=70:=by lia
       have htl60:tl.length<=60:=by lia
       have hj2:j<=1:=FS hj;have hE:40+200*j<=1000:=by lia
       refine ⟨_,s2,_,s5,_,s3,_,s4,q6 G P R (DC heq70 (by decide)) hd1 (λτb md hrb hmd hdue=>?_) 26⟩;have hD:(bO nd cls f ((DV nd.length).filter λa=>cls a == a)).length<=35:=DM (GA _ _) (DM (Fm _ _) (by rw [Ez];exact hnd35));have hDp:∀z∈(bO nd cls f ((DV nd.length).filter λa=>cls a == a)).map (cN nd),plain z=true/\aK z<=8:=λz=>wV R λy hy=>D3.mp (EM.mp hy).1;have Rb:=R.ro hrb;have hd1b:=hrb.keepL hd1;have hheld:∀e,(eqs.map λx=>PV.tup [tm nd x.1,tm nd x.2])=eqs.map λx=>PV.tup [tm (nd ++ e) x.1,tm (nd ++ e) x.2]:=λe=>El λx hx=>R.H.casesOn λ_ kn us _ C=>by rw [dE _ _ (C.held x hx).1,dE _ _ (C.held x hx).2.1]
       have fold:=λ(Q:PV->aa->Prop)=>wI G P Rb (DM hnd35 (by decide)) hE (by lia) (Q:=Q) (k:=23);generalize bO nd cls f ((DV nd.length).filter λa=>cls a == a)=D at hdue hD hDp fold;have hDb:D.length < 10000:=DC hD (by decide);have htD:tl.length+D.length < 200:=DC (Gb htl60 hD) (by decide);have htDl:(tl ++ D.map (cN nd)).length=tl.length+D.length:=by rw [DG,DD]
       clear R hrb hd1 hmd;refine ⟨_,s5,_,Rb.K.toldA,uS Rb.K.told (eZ _) (DC htl60 (by decide)) ⟨_,rfl,rfl,_,rfl,eO (hZ (aC nofun) ⟨_,s5,_,aL Rb.K.kp rfl rfl,fold _ λτc e ps cls' i' ks' f' tc he hps Rc=>?_⟩)⟩⟩;have hdc:=tc.keepL hdue;have hd1c:=tc.keepL hd1b;clear fold tc hdue hd1b Rb;refine ⟨_,rfl,cL hdc (DD _) hDb (fN (hZ (bne_self_eq_false _) ⟨_,s5,_,Rc.K.toldA,uS Rc.K.told ((eZ _).trans htDl) (DH htD (by decide)) ⟨_,rfl,_,rfl,cL hdc (DD _) hDb (.addI (fN (b:=tl.length+D.length) (hZ (bne_self_eq_false _)
        ⟨_,s2,_,aL Rc.H.rd.h rfl rfl,u0 G P Rc.H (.mk (hZ rfl (iB rfl ⟨_,rfl,cL hdc (DD _) hDb (.mk ⟨EL _,EG.mpr (DH hDb (by decide)),?_⟩)⟩))) 29⟩)))⟩⟩))⟩
       refine dg (ks:=DV D.length) (λk=>(D.map (cN nd)).getD k .none) (λ_ _=>trivial) (by rw [Ez];exact au hDb) (λa ha=>⟨_,rfl,λτd hrd P1 P0 hp1=>?_⟩) λτd hrd=>bo λmq τe rq lq=>?_
       · have Kd:=Rc.K.ro hrd;have haD:=D3.mp ha;have hta:tl.length+a < 200:=DH (GE haD _) htD;have hx:(tl ++ D.map (cN nd))[tl.length+a]? = some ((D.map (cN nd)).getD a .none):=by
          rw [EW (Ed _ _),HS,EA,DW ((DD _).symm▸haD)];rfl
         refine iT rfl ⟨_,(af.put_ne _ _ (by decide)).trans s5,_,Kd.toldA,_,iR Kd.told rfl,_,(af.put_ne _ _ (by decide)).trans rfl,_,af.put_self _ _ _,.addI (km (DH hta (by decide):tl.length+a < 2 ^ 60) (.addS (by rw [Ar];exact au (DH (kl _ hta).2 (by decide))) (.get Kd.told (qU _ _) ?_)))⟩;have:=wG (htDl.symm▸htD) hx;rw [show PV.str (Dy "fold" ++ bK (((tl.length:Nat):Int)+((a:Nat):Int)))=.str (ae (tl.length+a)) from rfl,this];exact hp1 _ hrd
       · have hn:Ro τc τe:=hrd.trans rq;rw [yv (DD _)] at lq;have hpl:=jX λz hz=>(hDp z hz).1;refine ⟨_,rfl,.ne (.li lq (hn.keepL hdc) hpl hpl (wW λz hz=>(hDp z hz).2) (iB (congrArg Ga (aJ _)) ⟨_,s3,_,rfl,.addL (hn.keepL hd1c) (hn.keepL hdc) (by rw [DD,DD];exact au (DC (Gb heq70 hD) (by decide))) (bo λd2 τf rf lf=>hP' _ _ ?_)⟩))⟩;rw [hheld e,← hps,← D4] at lf;have hpsl:ps.length=D.length:=(DD _).symm.trans ((congrArg Gl hps).trans (DD _));exact .mk (nd ++ e) (eqs ++ ps) cls' i' ks' f' _ d2 s2 s4 s5 rfl lf (by rw [DG];exact (Gb hnd he:_<=28+7*j+7)) (by rw [DG,hpsl];exact (Gb heq (DM hD (by decide:35<=60)):_<=10+60*j+60)) (by rw [htDl];exact (Gb htl (DM hD (by decide:35<=60)):_<=60*j+60)) (Rc.ro (hn.trans rf))
     · exact ⟨_,s2,_,s5,_,s3,_,s4,q6 G P R (DC heq (by decide)) hd1 (λτb md hrb hmd hdue=>.isn (by rw [aC (a:=.ref (.loc md)) (b:=.none) nofun];exact hQ _)) 26⟩
section
variable {prog:Fc} {w:Fs} {A:Em} {E:DF->DA->Prop} {h:EI} {g:Array KN} {d:MH} {t:Nat} {os:LV} {a:Ep} {items:Array DF} {n:Nat}
theorem wX:typeLookup (.type "list") (Dy "keys")=pure none:=am_miss_of_fast (by kernel_rfl)
theorem kI:typeLookup (.type "list") "__getattr__" = pure none:=by rw [Fz,EN];kernel_rfl
theorem mM{tk:Tok}{Q:Fin->DA->Prop}(hx:h.get? a=some ⟨.type "list",none,.seq items n,#[]⟩)(hh:A.handled=none)
 (hE:∀h' tk e,LP h h' e (.ref a) (Dy "keys")->E (.ref e) ⟨h',g,d,tk,os⟩) :
 wpAny (model prog w) A (FO.«object.__getattribute__» ⟨[.ref a,.str (Dy "keys") tk],[]⟩) Q E ⟨h,g,d,t,os⟩:=by
 have hT:(⟨h,g,d,t,os⟩:DA).TypeIs (.ref a) "list":=⟨_,hx,rfl⟩;have hmiss:=wX;unfold FO.«object.__getattribute__»;repeat (any_goals (first | assumption | wp_step))
 refine wpAny_raiseAttrError hh (λh' tk e hx=>hE h' tk e hx) ?_;exact attrMsg_fits (by decide +kernel) (by decide +kernel)
theorem nJ{tk:Tok}{R:Iq->DA->Prop}(hx:h.get? a=some ⟨.type "list",none,.seq items n,#[]⟩)(hh:A.handled=none)
 (hE:∀h' tk e,LP h h' e (.ref a) (Dy "keys")->R (.error (.ref e)) ⟨h',g,d,tk,os⟩) :
 codeAny (model prog w) A (.call (.builtin "list.__getattribute__") ⟨[.ref a,.str (Dy "keys") tk],[]⟩) R ⟨h,g,d,t,os⟩:=
 Gw GB.plain F.entry_list_ga (GB.check _ _ _ _ _ _ _ _ (show (⟨h,g,d,t,os⟩:DA).TypeIs (.ref a) "list" from ⟨_,hx,rfl⟩) (F.args_list_getattribute_2 _ _) (mM hx hh hE))
theorem nK{Q:Option DF->DA->Prop}(hx:h.get? a=some ⟨.type "list",none,.seq items n,#[]⟩)(hh:A.handled=none)(hq:∀h' tk,(∀b ob,h.get? b=some ob->h'.get? b=some ob)->Q none ⟨h',g,d,tk,os⟩) :
 wpAny (model prog w) A (getAttr? (.ref a) "keys") Q E ⟨h,g,d,t,os⟩:=by
 have hT:∀t,(⟨h,g,d,t,os⟩:DA).TypeIs (.ref a) "list":=λ_=>⟨_,hx,rfl⟩;have f1:=sub_AttributeError;have f2:=GB.lookup;have f3:=GB.bind (.ref a);have f5:=kI;unfold getAttr? getAttrBy? getAttrBy;repeat (any_goals (first | assumption | exact hT _ | wp_step))
 refine nJ hx hh λh' tk e hx'=>?_;obtain ⟨t',u',he⟩:=hx'.there;show wpAny _ _ (getattributeRaised _ _ _ _ _ _ _) _ _ _;unfold getattributeRaised;repeat (any_goals (first | assumption | wp_step))
 exact hq _ _ hx'.keeps
end
namespace FF
theorem entry_dict_update_loop:entryFor table "dict.update.loop" = some FO.«dict.update.loop»:=JG (by kernel_rfl)
theorem plain_dict_update_loop:plainId "dict.update.loop" = true:=by decide +kernel
end FF
section
variable {c:Cx} {A:Em} {s:DA} {σ:aa} {L:ao}
theorem BY{h:EI}{x y:PV}{vs:List DF}(e:ag L h [x,y] vs):∃v u,vs=[v,u]/\ak L h x v/\ak L h y u:=e.consE λv r hv hr=>hr.oneE λu hu=>⟨v,u,rfl,hv,hu⟩
theorem jZ{h:EI}{I a:Ep}{i:Nat}(hit:h.IsListIter I a i)(b:Ep)(its:Array DF)(m:Nat)(hb:b=I):h.get? b≠some ⟨.type "tuple",none,.seq its m,#[]⟩:=λe=>hit.elim λo q=>
 absurd (Ia ((congrArg Mx (DN ((hb▸e).symm.trans q.1))).trans q.2.1)) (by decide)
theorem ri{h:EI}{D:Ep}{es:Array EB}{n:Nat}(hD:h.get? D=some ⟨.type "dict",none,.dict es n,#[]⟩)(b:Ep)(its:Array DF)(m:Nat)(hb:b=D):h.get? b≠some ⟨.type "tuple",none,.seq its m,#[]⟩:=λe=>
 absurd (Ia (congrArg Mx (DN ((hb▸e).symm.trans hD)))) (by decide)
theorem yw(d:List (PV×PV))(k v:PV):(bB d k v).length<=d.length+1:=by
 induction d with
 | nil=>exact DQ 1
 | cons x r ih=>
  show (if aG x.1 k=true then (x.1,v)::r else (x.1,x.2)::bB r k v).length<=_;by_cases e:aG x.1 k=true
  · rw [if_pos e];exact E6 _
  · rw [if_neg e];exact Ei ih
theorem wY(hh:A.handled=none)(hu:A.units+40 < cLine){p:al}{l:List PV}(hp:σ p=some (.list l))(hlb:l.length < ay){D I:Ep}(hDI:D≠I)(hDo:L.own D=none)(hIo:L.own I=none)(hD0:c.h₀.get? D=none)(hI0:c.h₀.get? I=none){K:List (PV×PV)->Prop}{R:Iq->DA->Prop} :
 ∀(k i:Nat) (s:DA) (d:List (PV×PV)) (es:Array EB) (n:Nat) (t:Tok),i+k=l.length->Wd c s σ L->s.heap.IsListIter I (L.ad p) i->
  s.heap.get? D=some ⟨.type "dict",none,.dict es n,#[]⟩->aA c.w L s.heap d es.toList->(d.map (·.1)).Nodup->d.length<=i->cJ (l.drop i) d K->
  (∀s' d' es' n',Wd c s' σ L->(∀b o,b≠D->b≠I->s.heap.get? b=some o->s'.heap.get? b=some o)->s.heap.objs.size<=s'.heap.objs.size->s'.heap.get? D=some ⟨.type "dict",none,.dict es' n',#[]⟩->aA c.w L s'.heap d' es'.toList->(d'.map (·.1)).Nodup->K d'->R (.ok (.ret .none)) s')->
  codeAny (model c.prog c.w) A (.builtin "dict.update.loop" ⟨[.ref D,.ref I,.int i t,.none],[]⟩) R s:=by
 intro k;induction k with
 | zero=>
  intro i s d es n t hi W hit hD hr hnd hdl hw hR;refine FW FF.entry_dict_update_loop ?_;rw [Fx FF.plain_dict_update_loop _];show wpAny _ A.in1 (pyNext (.ref I) >>= _) _ _ s;refine aZ (bN W hp) λitems hl hlr hlz=>Dz (aI (Im hh hit hl (FT.mpr (Ee (hlz.trans hi.symm))) λh' hs hsz=>?_));have S:=W.step (s':={s with heap:=h'}) (B:=λb=>b=I) hs (λb hb=>hb▸hIo) (λb hb=>hb▸hI0) (jZ hit) hsz rfl rfl;rw [GP (i:=i) (Ee hi.symm)] at hw;show wpAny _ A.in1 (Builtin.Dict.addKeywords D [] >>= _) _ _ _;exact Dz (DE (DE (hR _ d es n S.1 (λb o _ h2 e=>hs b o h2 e) hsz (hs D _ hDI hD) (aA.mono (s:=s) (s':={s with heap:=h'}) S.2.2 hr) hnd hw)))
 | succ k ih=>
  intro i s d es n t hi W hit hD hr hnd hdl hw hR;have hlt:i < l.length:=hi▸FN (FB _);refine FW FF.entry_dict_update_loop ?_;rw [Fx FF.plain_dict_update_loop _];show wpAny _ A.in1 (pyNext (.ref I) >>= _) _ _ s;refine aZ (bN W hp) λitems hl hlr hlz=>aN (hlr.get i _ (DW hlt)) λv hv hxv=>Dz (aI (Ib hit hl (by rw [← Eu];exact hv) λh' hit' hs hsz=>?_));rw [Gs hlt] at hw;have hI:∀b o,¬b=I->s.heap.get? b=some o->h'.get? b=some o:=λb o hb e=>(hs.2 b hb).trans e;have S:=W.step (s':={s with heap:=h'}) (B:=λb=>b=I) hI (λb hb=>hb▸hIo) (λb hb=>hb▸hI0) (jZ hit) hsz rfl rfl;have hD1:h'.get? D=some ⟨.type "dict",none,.dict es n,#[]⟩:=(hs.2 D hDI).trans hD;have hr₁:aA c.w L h' d es.toList:=aA.mono (s:=s) (s':={s with heap:=h'}) S.2.2 hr;have hw:Ev (lO l[i]) λq=>DK d q.1/\cJ (l.drop (i+1)) (bB d q.1 q.2) K:=hw;refine hw.casesOn λq hq hw=>?_;rw [nZ hq] at hxv;refine (hxv.mono S.2.2).tupE λta titems tn hta hto htl=>eB (BY htl) λkv vv htis hkv hvv=>?_;refine Dz (D2 (Dz (wpAny_tryCatch ?_)));unfold Builtin.Dict.pairItems;refine Dz (Hl (⟨_,hta,rfl⟩:({s with heap:=h'}:DA).TypeIs (.ref ta) "tuple") ?_);rw [if_pos (by decide)];refine Dz (Ha hta rfl (DE ?_));simp only [Option.getD_some,htis];refine D2 (i4 (c:=c) (L:=L) (by show A.units+1+20 < cLine;lia) hD1 hr₁ hnd hw.1 (DC (DM hdl (D9 hlt)) hlb) hkv hvv λh₂ t₂ es2 n₂ hD2 hs2 hr₂ hnd2=>?_);have hk₂:∀b o,¬b=D->h'.get? b=some o->h₂.get? b=some o:=λb o hb e=>(hs2.2 b hb).trans e;have S₂:=S.1.step (s':={s with heap:=h₂,toks:=t₂}) (B:=λb=>b=D) hk₂ (λb hb=>hb▸hDo) (λb hb=>hb▸hD0) (ri hD1) (Ee hs2.1.symm) rfl rfl;exact DE ⟨GX FF.plain_dict_update_loop _,ih (i+1) _ _ es2 n₂ _ ((Ih i k).trans hi) S₂.1 (hit'.imp λo' q=>⟨hk₂ I o' (λe=>hDI e.symm) q.1,q.2⟩) hD2 (aA.mono (s:={s with heap:=h'}) (s':={s with heap:=h₂,toks:=t₂}) S₂.2.2 hr₂) hnd2 (DM (yw _ _ _) (Ei hdl)) hw.2
   λs' d' es' n' W' hk' hz' hD' hr' hnd' hK'=>hR s' d' es' n' W' (λb o h1 h2 e=>hk' b o h1 h2 (hk₂ b o h1 (hI b o h2 e))) (DM hsz (DM (Ee hs2.1.symm) hz')) hD' hr' hnd' hK'⟩
theorem yx:∀(A:Em) (s:DA) (σ:aa) (L:ao) (p:al) (l:List PV) (Q:PV->aa->Prop),A.handled=none->A.units+60 < cLine->Wd c s σ L->σ p=some (.list l)->l.length < ay->cJ l [] (λd=>aQ σ (.dict d) Q)->
 wpAny (model c.prog c.w) A (call (.type "dict") [.ref (L.ad p)]) (aq c s L Q) aY s:=by
 intro A s σ L p l Q hh hu W hp hl hw;refine callType_codes (Q₁:=λobj s₁=>obj=.ref s.heap.objs.size/\s₁={s with heap:=s.heap.push {cls:=.type "dict",data:=.dict #[]}}) F.kt_called_dict (F.kt_typeCall_dict_1 _) F.entry_dict_init (kt_code_dict_new _ ⟨rfl,rfl⟩) ?_;rintro obj s₁ ⟨rfl,rfl⟩;have hk₁:∀b o,s.heap.get? b=some o->(s.heap.push {cls:=.type "dict",data:=.dict #[]}).get? b=some o:=λb o e=>DJ _ e;have hD1:(s.heap.push {cls:=.type "dict",data:=.dict #[]}).get? s.heap.objs.size=some ⟨.type "dict",none,.dict #[] 0,#[]⟩:=DZ _ rfl;obtain ⟨W1,X1⟩:=W.grow (s':={s with heap:=s.heap.push {cls:=.type "dict",data:=.dict #[]}}) (by simp) hk₁ rfl rfl;have hnT:({s with heap:=s.heap.push {cls:=.type "dict",data:=.dict #[]}}:DA).TypeIs (.ref s.heap.objs.size) "dict":=⟨_,hD1,rfl⟩;refine bf (W1.objs p _ hp) λitems n hl₁ hlr1=>?_;have hlT:({s with heap:=s.heap.push {cls:=.type "dict",data:=.dict #[]}}:DA).TypeIs (.ref (L.ad p)) "list":=⟨_,hl₁,rfl⟩;refine ⟨hnT,F.args_dict_init_2 _ _,?_⟩;unfold FO.«dict.__init__»;refine Dz ?_;unfold Builtin.Dict.selfAndRest;refine Dz (GY hnT ?_);show wpAny _ _ (pure (s.heap.objs.size,[F7 (L.ad p)])) _ _ _;refine DE ?_;show wpAny _ _ (Builtin.Dict.updateFrom "dict.__init__" s.heap.objs.size (.ref (L.ad p)) [] .none) _ _ _;unfold Builtin.Dict.updateFrom;refine Dz (Hl hlT ?_);rw [if_pos (by decide)];refine Dz (aI (nK hl₁ hh λh' tk hk' hsz=>?_));rw [if_pos (by rfl)];have hsz':s.heap.objs.size < h'.objs.size:=by
  have:(s.heap.push {cls:=.type "dict",data:=.dict #[]}).objs.size=s.heap.objs.size+1:=FD _ _;have hsz:(s.heap.push {cls:=.type "dict",data:=.dict #[]}).objs.size<=h'.objs.size:=hsz;lia
 obtain ⟨W₂,X2⟩:=W1.grow (s':={s with heap:=h',toks:=tk}) hsz hk' rfl rfl;have hl₂:=hk' _ _ hl₁;refine Dz (Ft (Dz (G6 (items:=items) ⟨_,hl₂,rfl,n,rfl⟩ ?_)));have hk3:∀b o,h'.get? b=some o->(h'.push {cls:=.type "list_iterator",data:=.fields #[.ref (L.ad p),.int 0 0]}).get? b=some o:=λb o e=>DJ _ e;obtain ⟨W3,X3⟩:=W₂.grow (s':={s with heap:=h'.push {cls:=.type "list_iterator",data:=.fields #[.ref (L.ad p),.int 0 0]},toks:=tk}) (by simp) hk3 rfl rfl;have hI:(h'.push {cls:=.type "list_iterator",data:=.fields #[.ref (L.ad p),.int 0 0]}).get? h'.objs.size=some {cls:=.type "list_iterator",data:=.fields #[.ref (L.ad p),.int 0 0]}:=DZ _ rfl;refine DE ⟨GX FF.plain_dict_update_loop _,?_⟩;refine wY (A:=A.in1) hh (by show A.units+1+40 < cLine;lia) hp hl (D:=s.heap.objs.size) (I:=h'.objs.size) (D1 hsz') (W.fresh _ (DQ _)) (W.fresh _ (D9 hsz')) (W.h0none W.size0) (W.h0none (DM W.size0 (D9 hsz'))) (K:=λd=>aQ σ (.dict d) Q) l.length 0 _ [] #[] 0 0 (FK _) W3 ⟨_,hI,rfl,rfl⟩ (hk3 _ _ (hk' _ _ hD1)) rfl Fg (Eo _) hw λs' d' es' n' W' hk'' hz'' hD' hr' hnd' hK'=>?_;refine aN (dY W' hK') λq hq hQ=>?_;have hz3:h'.objs.size<=s'.heap.objs.size:=by
  have:(h'.push {cls:=.type "list_iterator",data:=.fields #[.ref (L.ad p),.int 0 0]}).objs.size=h'.objs.size+1:=FD _ _;have hz'':(h'.push {cls:=.type "list_iterator",data:=.fields #[.ref (L.ad p),.int 0 0]}).objs.size<=s'.heap.objs.size:=hz'';lia
 have XX:Ex (λb=>s.heap.objs.size<=b) s s' L L:=⟨DM (D9 hsz') hz3,λ_ _=>rfl,λb o hb _ e=>by
  have hlt:=Ls hb;exact hk'' b o (D1 hlt) (D1 (DH hlt hsz')) (hk3 _ _ (hk' _ _ (hk₁ b o e))),λq hq=>⟨rfl,W.adlt hq⟩⟩
 refine (gj W' W.size0 hD' hr' hnd' XX (W.fresh _ (DQ _)) (DQ _) hq).casesOn λL4 W4 X4 _ _ r=>?_;exact ⟨rfl,.ref q,_,L4,W4,X4,r,hQ⟩
end
section
variable {c:Cx} {A:Em} {s:DA} {σ:aa} {L:ao} {env:Env} {sc scI:az} {ρ:af} {k:Nat}
noncomputable def tB(s s':DA):Prop:=∃t,s'={s with toks:=t}
theorem tB.refl{s:DA}:tB s s:=⟨s.toks,rfl⟩
theorem ax.tok{t:Nat}(F:ax c env sc s L ρ):ax c env sc {s with toks:=t} L ρ:=⟨F.kind,F.names,F.glob,F.bi,F.loc,λx v h g=>(F.cel x v h g).imp_right λq=>q.casesOn λa pv h1 h2 h3=>⟨a,pv,h1,h2,h3⟩,F.cells,F.locown,F.locold,λx a h=>(F.cellown x a h).casesOn λh1 h2 v h3=>⟨h1,h2,v,h3⟩,F.cellinj⟩
theorem yy(G:Gd c)(hR:bl k A)(W:Wd c s σ L)(F:ax c env sc s L ρ){w x:String}{b:al}{d:List (PV×PV)}{X:PV}(hw1:w≠"__debug__")(hw2:w≠"__classdict__")(hx1:x≠"__debug__")(hx2:x≠"__classdict__")(hw:ρ w=some (.ref b))(hx:ρ x=some X)(hb:σ b=some (.dict d))(hk:DK d X){p6 p7 p8 p9:Pos}(hp:(p7.endLine == p9.line)=true){Q:DF->DA->Prop}
 (hQ:∀v t,ak L s.heap ((aB d X).getD .none) v->Q v {s with toks:=t}) :
 wpAny (model c.prog c.w) A (eval (E.meth (.var w p6) "get" p7 (.cons (.var x p8) .nil) p9).py env) Q aY s:=by
 refine jq (e:=.var w p6) (es:=.cons (.var x p8) .nil) hp (by show 1 < 30;decide) (dz F hw1 hw2 hw λv hv pl=>?_);refine jw G W hv (mk:=.dGet) (by show (σ b).bind (iK "get")=_;rw [hb];rfl) ?_;show wpAny _ _ (callWith p9 MK.dGet.callee [v] (fb (.cons (.var x p8) .nil) env) []) _ _ _;refine Ir (dA (.cons (.var x p8) .nil) env).2 (cw (Hn (dz F hx1 hx2 hx λu hu=>IH ?_)));obtain ⟨rfl,_⟩:=hv;refine EH Il (fK W hb) H9 ?_ (JD _ _);have hu':=hR.units;show wpAny _ _ (dictGet (L.ad b) u >>= _) _ _ s;refine Dz (dK W (by show A.units+1+20 < cLine;lia) hb hk hu λt=>⟨λe=>?_,λy z e hy=>?_⟩)
 · show wpAny _ _ (Builtin.Dict.missed (L.ad b) u >>= _) _ _ _;refine Dz (KE (W.notModules G hb) (DE ⟨.none,rfl,hQ _ t ?_⟩));rw [e];exact rfl
 · refine DE ⟨z,rfl,hQ _ t ?_⟩;rw [e];exact hy
theorem yz(G:Gd c)(hR:bl k A)(W:Wd c s σ L)(F:ax c env sc s L ρ){w x:String}{b:al}{d:List (PV×PV)}{X Y:PV}(hw1:w≠"__debug__")(hw2:w≠"__classdict__")(hx1:x≠"__debug__")(hx2:x≠"__classdict__")(hw:ρ w=some (.ref b))(hx:ρ x=some X)(hb:σ b=some (.dict d))(hk:DK d X)(hy:aB d X=some Y){p1 p2 p3:Pos}{Q:DF->DA->Prop}
 (hQ:∀v t,ak L s.heap Y v->Q v {s with toks:=t}) :
 wpAny (model c.prog c.w) A (eval (E.sub (.var w p1) (.var x p2) p3).py env) Q aY s:=by
 refine KB (dz F hw1 hw2 hw λv hv=>dz F hx1 hx2 hx λu hu=>?_);obtain ⟨rfl,_⟩:=hv;have hT:=fK W hb;have hu':=hR.units;refine Kc hT Gx.lookup ?_ (fm (.var x p2) (.ref (L.ad b)) u);unfold getItem;try with_reducible refine D2 ?_
 refine Dz (HY hT (by decide) ?_);refine Dz (Gc (name:=Dy "__getitem__") hT Gx
  (EH Gx hT KA ?_ (KW _ _)))
 show wpAny _ _ (dictGet (L.ad b) u >>= _) _ _ s;refine Dz (dK W (by show A.units+1+20 < cLine;lia) hb hk hu λt=>⟨λe=>?_,λy v e hv=>?_⟩)
 · rw [hy] at e;cases e
 · rw [hy] at e;cases e;exact DE ⟨v,rfl,DE (hQ _ t hv)⟩
theorem wZ(G:Gd c)(hR:bl k A)(W:Wd c s σ L)(F:ax c env sc s L ρ){w x:String}{b:al}{d:List (PV×PV)}{X:PV}(hw1:w≠"__debug__")(hw2:w≠"__classdict__")(hx1:x≠"__debug__")(hx2:x≠"__classdict__")(hw:ρ w=some (.ref b))(hx:ρ x=some X)(hb:σ b=some (.dict d))(hk:DK d X)(hpl:plain ((aB d X).getD .none)=true)(hdp:aK ((aB d X).getD .none)<=8)
 {p6 p7 p8 p9 p10 p11:Pos} (hp:(p7.endLine == p9.line)=true) {whole:Sem DF} {Q:Bool->DA->Prop} (hQ:∀t,Q (aG ((aB d X).getD .none) (.str (Dy "clash"))) {s with toks:=t}) :
 wpAny (model c.prog c.w) A (isTrue (.Compare (E.meth (.var w p6) "get" p7 (.cons (.var x p8) .nil) p9).py [.Eq] [.Constant (.str (Dy "clash")) 0 p10] p11) env whole) Q aY s:=by
 refine J3 (yy G hR W F hw1 hw2 hx1 hx2 hw hx hb hk hp λv t hv=>I8 ?_) rfl;have W2:Wd c {s with toks:=t+1} σ L:=W.toks _ s.drawn;refine js (op:=.Eq) (V:=(aB d X).getD .none) (U:=.str (Dy "clash")) (K:=λr=>r=aG ((aB d X).getD .none) (.str (Dy "clash"))) G W2 hR.units hv (Exists.intro _ rfl) ?_ λr t' hr=>?_
 · exact .eq (.pl hpl (by decide +kernel) hdp rfl)
 · rw [hr];exact FE (hQ t')
end
section
variable {c:Cx} {A:Em} {s:DA} {σ:aa} {L:ao} {env:Env} {sc scI:az} {ρ:af} {k:Nat}
inductive lc(c:Cx)(σ:aa)(L:ao)(sB:DA)(LB:ao)(cenv:Env)(sc':az)(ρ0:af)(D:Ep)(I:Ep)(a:al)(Dd:List (PV×PV))(Ww:List (PV×PV))(kvs:List (Int×DF))(ep:Nat)(n:Nat)(s':DA):Prop
 | mk:∀i acc epl items,n+i=Dd.length->Wd c s' σ L->s'.heap.IsKeyIter I (L.ad a) i kvs.length ep->s'.heap.DictAt (intKind c.prog c.w) (L.ad a) kvs ep->s'.heap.get? D=some ⟨.type "list",none,.seq items epl,#[]⟩->ag L s'.heap acc items.toList->ax c cenv sc' s' L ρ0->(Ex (λb=>sB.heap.objs.size<=b) sB s' LB L)->(acc=(((Dd.take i).filter λkv=>aG ((aB Ww kv.1).getD .none) (.str (Dy "clash"))).map (·.2)))->lc c σ L sB LB cenv sc' ρ0 D I a Dd Ww kvs ep n s'
theorem xa(G:Gd c)(hR:bl k A){sB:DA}{LB:ao}{cenv:Env}{sc':az}{ρ0:af}{D I:Ep}{a b:al}{d w x:String}{Dd Ww:List (PV×PV)}{ks:List Int}{kvs:List (Int×DF)}{ep:Nat}{p1 p2 p3 p4 p6 p7 p8 p9 p10 p11 pos:Pos}{scope:Scope}{iter:Expr}{items0:Array DF}{ep0:Nat}
 (hd1:d≠"__debug__") (hd2:d≠"__classdict__") (hw1:w≠"__debug__") (hw2:w≠"__classdict__") (hx1:x≠"__debug__") (hx2:x≠"__classdict__") (hp:(p7.endLine == p9.line)=true) (ht:(Tg.name x p4).okl sc'=true) (hdx:d≠x) (hwx:w≠x) (hρx:ρ0 x=none)
 (hρd:ρ0 d=some (.ref a)) (hρw:ρ0 w=some (.ref b)) (ha:σ a=some (.dict Dd)) (hb:σ b=some (.dict Ww)) (hbig:Dd.length < ay) (hks:a6 (Dd.map (·.1))=some ks)
 (hall:∀kv∈Dd,DK Ww kv.1/\DK Dd kv.1/\aB Dd kv.1=some kv.2/\plain ((aB Ww kv.1).getD .none)=true/\aK ((aB Ww kv.1).getD .none)<=8) (hkk:kvs.map (·.1)=ks) (hkl:kvs.length=Dd.length)
 (hI:c.h₀.get? I=none/\¬cF cenv I/\sB.heap.objs.size<=I/\I≠D) (hD:c.h₀.get? D=none/\¬cF cenv D/\sB.heap.objs.size<=D) (hC:sB.heap.objs.size<=cenv.locals) (hIo:L.own I=none) (hDo:L.own D=none)
 (W:Wd c s σ L) (F:ax c cenv sc' s L ρ0) (hit:s.heap.IsKeyIter I (L.ad a) 0 kvs.length ep) (hm:s.heap.DictAt (intKind c.prog c.w) (L.ad a) kvs ep) (hl:s.heap.get? D=some ⟨.type "list",none,.seq items0 ep0,#[]⟩) (h0:items0=#[]) (X:Ex (λb=>sB.heap.objs.size<=b) sB s LB L) :
 codeAny (model c.prog c.w) A (.compLoop (.ListComp (E.sub (.var d p1) (.var x p2) p3).py [⟨.Name (Dy x) p4,iter,[.Compare (E.meth (.var w p6) "get" p7 (.cons (.var x p8) .nil) p9).py [.Eq] [.Constant (.str (Dy "clash")) 0 p10] p11],0⟩] scope pos) 0 (.ref I) (.ref D) cenv)
  (uk c sB LB cenv sc' ρ0 D (λacc σ'=>acc=((Dd.filter λkv=>aG ((aB Ww kv.1).getD .none) (.str (Dy "clash"))).map (·.2))/\σ'=σ)) s:=by
 have haI:L.ad a≠I:=λe=>by have:=W.own ha;rw [e,hIo] at this;cases this
 have haD:L.ad a≠D:=λe=>by have:=W.own ha;rw [e,hDo] at this;cases this
 have haC:L.ad a≠cenv.locals:=λe=>by have:=W.own ha;rw [e,F.locown] at this;cases this
 refine jx (lc c σ L sB LB cenv sc' ρ0 D I a Dd Ww kvs ep) ?_ Dd.length
  ⟨0,[],ep0,items0,rfl,W,hit,hm,hl,by rw [h0];exact ag.nil,F,X,rfl⟩
 clear W F hit hm hl h0 X;rintro n s ⟨i,acc,epl,items,hn,W,hit,hm,hl,hr,F,X,hacc⟩;have hh:=hR.1;have keepDict:∀{h h':EI},h.DictAt (intKind c.prog c.w) (L.ad a) kvs ep->(∀o,h.get? (L.ad a)=some o->h'.get? (L.ad a)=some o)->h'.DictAt (intKind c.prog c.w) (L.ad a) kvs ep:=λ⟨o,es,ho,r⟩ hk=>⟨o,es,hk o ho,r⟩;have keepIter:∀{h h':EI} {i:Nat},h.IsKeyIter I (L.ad a) i kvs.length ep->(∀o,h.get? I=some o->h'.get? I=some o)->h'.IsKeyIter I (L.ad a) i kvs.length ep:=λ⟨o,ho,r⟩ hk=>⟨o,hk o ho,r⟩;have hIt:∀{h:EI} {i:Nat},h.IsKeyIter I (L.ad a) i kvs.length ep->∀b its m,b=I->h.get? b≠some ⟨.type "tuple",none,.seq its m,#[]⟩:=λ{h i} hit b its m hb e=>by
  subst hb;refine aZ hit λo' ho' hcl _=>?_;rw [e] at ho';cases ho';simp at hcl
 rcases FP i Dd.length with hi | hi
 · have hik:i < kvs.length:=by exact DI hi (Ee hkl.symm)
   have hxk:kvs[i]? = some (kvs[i].1,kvs[i].2):=DW hik;have hkey:Dd[i].1=.int kvs[i].1:=by
    have h1:=a7 hks;have h2:(Dd.map (·.1))[i]? = (ks.map PV.int)[i]?:=by rw [h1]
    rw [← hkk] at h2
    simpa [hi,hik] using h2
   have hmem:Dd[i]∈Dd:=E9 hi;refine AL (hall _ hmem) λq1 q2 q3 q4 q5=>?_;rw [hkey] at q1 q2 q3 q4 q5;refine aI (wpAny_pyNext_dict_item (knd:=intKind c.prog c.w) hit hm hxk λkey h' hk hit' hs hsz=>?_);obtain ⟨tk,rfl⟩:=Lh hk;have hkI:∀b o,¬b=I->s.heap.get? b=some o->h'.get? b=some o:=λb o hb e=>(hs.2 b hb).trans e;refine cj (W.step (s':={s with heap:=h'}) (B:=λb=>b=I) hkI (λb hb=>hb▸hIo) (λb hb=>hb▸hI.1) (hIt hit) hsz rfl rfl) λW1 X1 V1=>?_;have F1:ax c cenv sc' {s with heap:=h'} L ρ0:=F.mono' V1 X1.own (λo e=>hkI _ o (λhb=>hI.2.1 (hb▸.inl rfl)) e) (λy z hz o e=>hkI z o (λhb=>hI.2.1 (hb▸.inr ⟨y,hz⟩)) e);show wpAny _ _ (letOwnedTupleGo (Tg.name x p4).py (.ref I) _) _ _ _;refine sG ?_;refine sI (t:=.name x p4) (V:=.int kvs[i].1) hh W1 F1 (Tg.okl_ok ht) (Exists.intro _ rfl) rfl λs₂ W₂ S₂ F2=>?_;have hTg:∀b,gg cenv sc' (.name x p4) b->b=cenv.locals:=λb q=>gg.loc ht q;have hk₂:∀b o,b≠cenv.locals->h'.get? b=some o->s₂.heap.get? b=some o:=λb o hb e=>S₂.keep b o (λq=>hb (hTg b q)) e;have hIC:I≠cenv.locals:=λe=>hI.2.1 (.inl e);have hDC:D≠cenv.locals:=λe=>hD.2.1 (.inl e);have hit2:=keepIter (h:=h') (h':=s₂.heap) hit' λo e=>hk₂ I o hIC e;have hm₂:=keepDict (h:=s.heap) (h':=s₂.heap) hm λo e=>hk₂ _ o haC (hkI _ o haI e);have hl₂:=hk₂ D _ hDC (hkI D _ (Km hI.2.2.2) hl);have hr₂:=(hr.mono V1).mono S₂.vm;have X2:Ex (λb=>sB.heap.objs.size<=b) sB s₂ LB L:=(X.trans (X1.wider λb hb=>by rw [hb];exact hI.2.2.1)).trans (S₂.ex.wider λb q=>by rw [hTg b q];exact hC);have hrw:(ρ0.put x (.int kvs[i].1)) w=some (.ref b):=by rw [af.put,if_neg hwx];exact hρw
   have hrd:(ρ0.put x (.int kvs[i].1)) d=some (.ref a):=by rw [af.put,if_neg hdx];exact hρd
   have hrx:(ρ0.put x (.int kvs[i].1)) x=some (.int kvs[i].1):=by rw [af.put,if_pos rfl]
   have hback:∀y u,ρ0 y=some u->(ρ0.put x (.int kvs[i].1)) y=some u:=λy u h=>by
    have:y≠x:=by rintro rfl;rw [hρx] at h;cases h
    rw [af.put,if_neg this];exact h
   have htake:Dd.take (i+1)=Dd.take i ++ [Dd[i]]:=by rw [Ht]
   show wpAny _ _ (forIn [_] true _) _ _ _;rw [Gv];refine Dz ?_;rw [if_pos rfl];refine Dz (wZ G hR W₂ F2 hw1 hw2 hx1 hx2 hrw hrx hb q1 q4 q5 hp λt=>DE ?_);have W3:Wd c {s₂ with toks:=t} σ L:=W₂.toks t s₂.drawn;have F3:ax c cenv sc' {s₂ with toks:=t} L (ρ0.put x (.int kvs[i].1)):=F2.tok;have X3:Ex (λb=>sB.heap.objs.size<=b) sB {s₂ with toks:=t} LB L:=X2.trans (W₂.exToks t s₂.drawn).weak;cases hq:aG ((aB Ww (.int kvs[i].1)).getD .none) (.str (Dy "clash")) with
   | false=>
    refine kR ?_;rw [if_neg (by simp)];refine ⟨n - 1,by lia,i+1,acc,epl,items,by lia,W3,hit2,hm₂,hl₂,hr₂,F3.weaken hback,X3,?_⟩;rw [hacc,htake,Fv,Iw,if_neg (by rw [hkey,hq];simp)];simp
   | true=>
    refine JX ?_;rw [if_pos rfl];refine yz G hR W3 F3 hd1 hd2 hx1 hx2 hrd hrx ha q2 q3 λv t' hv=>?_;have hsz2:items.size=acc.length:=by rw [← hr.length,DT]
    have hal:acc.length<=i:=by
     rw [hacc,DD];have:=Fm (λkv:PV×PV=>aG ((aB Ww kv.1).getD .none) (.str (Dy "clash"))) (Dd.take i);have h2:(Dd.take i).length<=i:=by simp;lia
     exact DM this h2
    refine Mt (s:={s₂ with toks:=t'}) hl₂ (λh₄ hs4 hl₄=>?_) (by rw [hsz2];exact aV (by exact DH (DC hal hi) hbig));have hk4:∀b o,¬b=D->s₂.heap.get? b=some o->h₄.get? b=some o:=λb o hb e=>(hs4.2 b hb).trans e;obtain ⟨W5,X5,V5⟩:=W3.step (s':={s₂ with heap:=h₄,toks:=t'}) (B:=λb=>b=D) hk4 (λb hb=>hb▸hDo) (λb hb=>hb▸hD.1) (λb its m hb e=>by subst hb;have e:s₂.heap.get? b=_:=e;rw [hl₂] at e;simp at e) (Ee hs4.1.symm) rfl rfl;have hnD:∀b,cF cenv b->¬b=D:=λb hb e=>hD.2.1 (e▸hb);have F5:ax c cenv sc' {s₂ with heap:=h₄,toks:=t'} L (ρ0.put x (.int kvs[i].1)):=F3.mono' V5 X5.own (λo e=>hk4 _ o (hnD _ (.inl rfl)) e) λy z hz o e=>hk4 z o (hnD z (.inr ⟨y,hz⟩)) e;refine ⟨n - 1,by lia,i+1,acc ++ [Dd[i].2],epl+1,items.push v,by lia,W5,keepIter hit2 λo e=>hk4 I o hI.2.2.2 e,keepDict hm₂ λo e=>hk4 _ o haD e,hl₄,?_,F5.weaken hback,X3.trans (X5.wider λb hb=>by rw [hb];exact hD.2.2),?_⟩
    · rw [Fo];exact (hr₂.mono V5).append (ag.cons (hv.mono V5) ag.nil)
    · rw [hacc,htake,Fv,Iw,if_pos (by rw [hkey,hq])];simp
 · have hil:i=Dd.length:=by lia
   refine aI (wpAny_pyNext_dict_end (knd:=intKind c.prog c.w) hh hit hm (by rw [Jn];exact DM (Ee hkl) hi) λh' hs hsz=>?_);have hkI:∀b o,¬b=I->s.heap.get? b=some o->h'.get? b=some o:=λb o hb e=>hs b o hb e;refine cj (W.step (s':={s with heap:=h'}) (B:=λb=>b=I) hkI (λb hb=>hb▸hIo) (λb hb=>hb▸hI.1) (hIt hit) hsz rfl rfl) λW1 X1 V1=>?_;have F1:ax c cenv sc' {s with heap:=h'} L ρ0:=F.mono' V1 X1.own (λo e=>hkI _ o (λhb=>hI.2.1 (hb▸.inl rfl)) e) (λy z hz o e=>hkI z o (λhb=>hI.2.1 (hb▸.inr ⟨y,hz⟩)) e);refine ⟨rfl,acc,σ,L,epl,items,W1,hkI D _ (Km hI.2.2.2) hl,hr.mono V1,F1,X.trans (X1.wider λb hb=>by rw [hb];exact hI.2.2.1),hDo,?_,rfl⟩;rw [hacc,Ii (by exact hi)]
end
theorem yA(c:Cx)(t:Tg)(I d:Ep)(n ep:Nat):dU c t I (λb=>b=I) (λ_=>False) [] (λ_ _ h=>h.IsKeyIter I d 0 n ep) (λ_ _ _ _=>False) where
 keep:=λi L L' s s' ⟨o,ho,r⟩ V hk=>⟨o,hk I o rfl ho,r⟩
 item:=λA i s σ L x Q E _ _ _ h=>h.elim
 go:=λA i v s L Q E h=>h.elim
 done:=λA s σ L Q E _ _ _ h=>h.elim
 self:=λA i s L Q E hit h=>Kh hit h
 pt:=λi L h hit b o hb e=>by
  subst hb;refine aZ hit λo' ho' hcl _=>?_;rw [e] at ho';cases ho';simp [hcl]
 ptm:=λi v L h q=>q.elim
theorem As{c:Cx}(G:Gd c):∀(sc scI:az) (d w x:String) (p1 p2 p3 p4 p5 p6 p7 p8 p9 p10 p11 p:Pos),(p7.endLine == p9.line)=true->bw sc scI (.name x p4)=true->scI.lookup d=some .free->scI.lookup w=some .free->(∀y∈[d,w,x],y≠"__debug__"/\y≠"__classdict__")->SE c sc (.dsel d w x p1 p2 p3 p4 p5 p6 p7 p8 p9 p10 p11 scI p):=by
 intro sc scI d w x p1 p2 p3 p4 p5 p6 p7 p8 p9 p10 p11 p hp hchk hd hw' hne A s σ L env ρ Q k hR W F hw;obtain ⟨hd1,hd2⟩:=hne d (by simp);obtain ⟨hw1,hw2⟩:=hne w (by simp);obtain ⟨hx1,hx2⟩:=hne x (by simp);obtain ⟨a,b,D,Ww,hρd,hρw,ha,hb,hbig,⟨ks,hks⟩,hall,hnew⟩:=hw;refine aZ (gB F hchk) λcl hclos hcl2 hcl4=>?_;obtain ⟨hcell,hnames⟩:=eu hchk;obtain ⟨ht1,ht2⟩:=iw hchk;have hxl:scI.lookup x=some .local:=by simpa [Tg.okl] using ht1
 have hdx:d≠x:=by rintro rfl;rw [hd] at hxl;cases hxl
 have hwx:w≠x:=by rintro rfl;rw [hw'] at hxl;cases hxl
 show wpAny _ _ (eval (.ListComp _ _ scI.py p) env) _ _ _;rw [Lb];refine Hr (g:=⟨.Name (Dy x) p4,.Name (Dy d) p5,[.Compare (E.meth (.var w p6) "get" p7 (.cons (.var x p8) .nil) p9).py [.Eq] [.Constant (.str (Dy "clash")) 0 p10] p11],0⟩) (gs:=[]) (cl:=cl) rfl (λy=>jC (.var d p5) env y) hclos rfl hnames
  (dz F hd1 hd2 hρd λv hv=>?_)
 obtain ⟨rfl,_⟩:=hv;refine pO (ir W ha hks) λkvs ep hm hkk hkl hvr=>?_;refine wpAny_pyIter_dict (knd:=intKind c.prog c.w) (W.notModules G ha) hm ?_;have hk₂:∀b o,s.heap.get? b=some o->(s.heap.push {cls:=.type "dict_keyiterator",data:=.fields #[.ref (L.ad a),.int 0 0,.int kvs.length 0,.int ep 0]}).get? b=some o:=λb o e=>DJ _ e;obtain ⟨W₂,X2⟩:=W.grow (s':={s with heap:=s.heap.push {cls:=.type "dict_keyiterator",data:=.fields #[.ref (L.ad a),.int 0 0,.int kvs.length 0,.int ep 0]}}) (by simp) hk₂ rfl rfl;have hio:(s.heap.push {cls:=.type "dict_keyiterator",data:=.fields #[.ref (L.ad a),.int 0 0,.int kvs.length 0,.int ep 0]}).get? s.heap.objs.size=some {cls:=.type "dict_keyiterator",data:=.fields #[.ref (L.ad a),.int 0 0,.int kvs.length 0,.int ep 0]}:=DZ _ rfl;have hit:(s.heap.push {cls:=.type "dict_keyiterator",data:=.fields #[.ref (L.ad a),.int 0 0,.int kvs.length 0,.int ep 0]}).IsKeyIter s.heap.objs.size (L.ad a) 0 kvs.length ep:=⟨_,hio,rfl,rfl⟩;have hm₂:(s.heap.push {cls:=.type "dict_keyiterator",data:=.fields #[.ref (L.ad a),.int 0 0,.int kvs.length 0,.int ep 0]}).DictAt (intKind c.prog c.w) (L.ad a) kvs ep:=hm.at' λo e=>hk₂ _ o e;have hIo:L.own s.heap.objs.size=none:=W.fresh _ (DQ _);refine jB (K:=Unit) (t:=.name x p4) (k:=k) (obj:={cls:=.type "list",data:=.seq #[]}) (RR:=λacc C=>compPost (model c.prog c.w) A aY none (aq c s L Q) acc C) hR hchk W F W₂ X2 (yA c (.name x p4) s.heap.objs.size (L.ad a) kvs.length ep) hit
  (λb hb=>by subst hb;exact ⟨DQ _,by rw [FD];exact D6 _,hIo⟩) hcl2 hcl4
  (λQ' hq=>FH hq) (by simp) rfl ?_
 intro cenv s₄ hkeep FC W4 X4 hit4 hD hloc hBl hB' hDD hC hDo;have hm4:s₄.heap.DictAt (intKind c.prog c.w) (L.ad a) kvs ep:=hm₂.at' λo e=>hkeep _ o e;have hρx:ρ.inner scI x=none:=by unfold af.inner;rw [if_neg (by rw [hxl];simp)]
 have hρd':ρ.inner scI d=some (.ref a):=by unfold af.inner;rw [if_pos hd];exact hρd
 have hρw':ρ.inner scI w=some (.ref b):=by unfold af.inner;rw [if_pos hw'];exact hρw
 have loop:=xa (p1:=p1) (p2:=p2) (p3:=p3) (p6:=p6) (p8:=p8) (p10:=p10) (p11:=p11) (iter:=.Name (Dy d) p5) (scope:=scI.py) (pos:=p) G hR hd1 hd2 hw1 hw2 hx1 hx2 hp ht2 hdx hwx hρx hρd' hρw' ha hb hbig hks
  (λkv hkv=>hall kv hkv) hkk hkl (hB' _ rfl) hDD hC hIo hDo W4 FC hit4 hm4 hD rfl X4.weak
 have hne':(s.heap.push {cls:=.type "dict_keyiterator",data:=.fields #[.ref (L.ad a),.int 0 0,.int kvs.length 0,.int ep 0]}).objs.size≠cenv.locals:=by rw [hloc];exact D1 (D6 _)
 have fin:=Hm (R':=compPost (model c.prog c.w) A aY none (aq c s L Q) (.ref (s.heap.push {cls:=.type "dict_keyiterator",data:=.fields #[.ref (L.ad a),.int 0 0,.int kvs.length 0,.int ep 0]}).objs.size) cenv.locals) loop λr s' hr=>by
  obtain ⟨rfl,acc,σ',L',ep',items,W',hac,hr2,F',X',hDo',hacc,rfl⟩:=hr;subst hacc;refine aN F'.loc λm hn _=>?_;refine ⟨m,hn,λh' hs=>?_⟩;have hk:∀b o,¬b=cenv.locals->s'.heap.get? b=some o->h'.get? b=some o:=λb o hb e=>(hs.2 b hb).trans e;refine (F'.fra cenv.locals (.inl rfl)).casesOn λf1 f2 f3 f4=>?_;refine cj (W'.step (s':={s' with heap:=h'}) hk (λb hb=>hb▸f1) (λb hb=>hb▸f2) (λb its n hb=>hb▸f4 its n) (Ee hs.1.symm) rfl rfl) λW₂ X2 V2=>?_;refine aN (dY W₂ hnew) λq hq hQ=>?_;obtain ⟨L3,W3,X3,_,_,r⟩:=i3 W₂ W.size0 (hk _ _ hne' hac) (hr2.mono V2) (X'.trans (X2.wider λb hb=>by rw [hb];exact hC)) hDo' hDD.2.2 hq;exact ⟨.ref q,_,L3,W3,X3,r,hQ⟩
 exact JL fin (Kh hit4 fin)
section
variable {prog:Fc} {w:Fs} {A:Em} {E:DF->DA->Prop} {h:EI} {g:Array KN} {d:MH} {t:Nat} {os:LV} {a:Ep} {o:Obj} {es:Array EB} {n:Nat}
theorem xb:typeLookup (.type "dict") (Dy "get")=pure (some (.builtin "dict.get")):=by rw [Fz,EN];kernel_rfl
theorem BZ:typeLookup (.type "method_descriptor") (Dy "__set__")=pure none:=by rw [Fz,EN];kernel_rfl
theorem B3:typeLookup (.type "method_descriptor") (Dy "__delete__")=pure none:=by rw [Fz,EN];kernel_rfl
theorem iG:Slot "method_descriptor" "__get__" "method_descriptor.__get__":=
 .of (owner:="method_descriptor") (n:="__get__") (by rw [Fz,EN];kernel_rfl) (by decide +kernel) (by decide +kernel) (by decide +kernel)
  (by first | exact .inl (by decide +kernel) | exact .inr (by decide +kernel)) (by rw [GJ];kernel_rfl)
theorem rj:entryFor table "method_descriptor.__get__" = some FO.«method_descriptor.__get__»:=JG (by kernel_rfl)
theorem su(x y z:DF):argsOk "method_descriptor.__get__" ⟨[x,y,z],[]⟩:=by unfold argsOk;kernel_rfl
theorem nL:isSubtype (.type "dict") (.type (".".intercalate ("dict.get".cutAt '.').dropLast))=pure true:=by
 rw [show ".".intercalate ("dict.get".cutAt '.').dropLast = "dict" from by decide +kernel,GJ];kernel_rfl
theorem pB:Manifest.toldItsClass.contains "dict.get" = false:=by decide +kernel
noncomputable def d9(a:Ep):Obj:={cls:=.type "builtin_function_or_method",data:=.fields #[.builtin "dict.get",.ref a]}
theorem sv{R:Iq->DA->Prop}(hx:h.get? a=some o)(hc:o.cls=.type "dict")(hq:R (.ok (.ret (.ref h.objs.size))) ⟨h.push (d9 a),g,d,t,os⟩) :
 codeAny (model prog w) A (.call (.builtin "method_descriptor.__get__") ⟨[.builtin "dict.get",.ref a,.type "dict"],[]⟩) R ⟨h,g,d,t,os⟩:=by
 have hT:(⟨h,g,d,t,os⟩:DA).TypeIs (.ref a) "dict":=⟨_,hx,hc⟩;have hT5:(⟨h,g,d,t,os⟩:DA).TypeIs (.builtin "dict.get") "method_descriptor":=JZ;have f8:=nL;have f9:=pB;refine Gw iG.plain rj (iG.check _ _ _ _ _ _ _ _ hT5 (su _ _ _) ?_);unfold FO.«method_descriptor.__get__»;repeat (any_goals (first | assumption | wp_step))
theorem yB{tk:Tok}{Q:Kk->DA->Prop}(hx:h.get? a=some ⟨.type "dict",none,.dict es n,#[]⟩)(hq:Q (.done (.ret (.ref h.objs.size))) ⟨h.push (d9 a),g,d,t,os⟩) :
 wpAny (model prog w) A (FO.«object.__getattribute__» ⟨[.ref a,.str (Dy "get") tk],[]⟩) Q E ⟨h,g,d,t,os⟩:=by
 have hT:(⟨h,g,d,t,os⟩:DA).TypeIs (.ref a) "dict":=⟨_,hx,rfl⟩;have hT5:(⟨h,g,d,t,os⟩:DA).TypeIs (.builtin "dict.get") "method_descriptor":=JZ;have f4:=xb;have f5:=JZ;have f6:=iG.lookup;have f7:=BZ;have f8:=B3;unfold FO.«object.__getattribute__»;repeat (any_goals (first | assumption | wp_step))
 refine sv hx rfl ?_;repeat (any_goals (first | assumption | wp_step))
theorem Au{tk:Tok}{R:Iq->DA->Prop}(hx:h.get? a=some ⟨.type "dict",none,.dict es n,#[]⟩)(hq:R (.ok (.ret (.ref h.objs.size))) ⟨h.push (d9 a),g,d,t,os⟩) :
 codeAny (model prog w) A (.call (.builtin "dict.__getattribute__") ⟨[.ref a,.str (Dy "get") tk],[]⟩) R ⟨h,g,d,t,os⟩:=
 Gw GC.plain F.entry_dict_ga (GC.check _ _ _ _ _ _ _ _ (show (⟨h,g,d,t,os⟩:DA).TypeIs (.ref a) "dict" from ⟨_,hx,rfl⟩) (F.args_dict_getattribute_2 _ _) (yB hx hq))
theorem Av{x:Bool}{Q:DF->DA->Prop}(hx:h.get? a=some ⟨.type "dict",none,.dict es n,#[]⟩)(hq:Q (.ref h.objs.size) ⟨h.push (d9 a),g,d,t+1,os⟩) :
 wpAny (model prog w) A (getAttr (.ref a) (Dy "get") x) Q E ⟨h,g,d,t,os⟩:=by
 have hT:∀t,(⟨h,g,d,t,os⟩:DA).TypeIs (.ref a) "dict":=λ_=>⟨_,hx,rfl⟩;have f2:=GC.lookup;have f3:=GC.bind (.ref a);unfold getAttr getAttrBy;repeat (any_goals (first | assumption | exact hT _ | wp_step))
 rw [if_neg (by cases x <;> exact DY)];unfold boundAndCalled;repeat (any_goals (first | assumption | exact hT _ | wp_step))
 refine Au hx ?_;repeat (any_goals (first | assumption | exact hT _ | wp_step))
theorem Ca:Manifest.signature? "dict.get" = some ⟨.positional,"dict.get","get",.self,[⟨"key",.posOnly,true⟩,⟨"default",.posOnly,false⟩]⟩:=by
 rw [signature?_of (id:="dict.get") (n:=['t','e','g']) (o:=['t','c','i','d']) (by kernel_rfl) F.owner_dict];kernel_rfl
theorem Aw:builtinKind "dict.get" = some .method:=by kernel_rfl
theorem xc:isSubtype (.type "dict") (.type "module")=pure false:=by rw [GJ];kernel_rfl
theorem C0:isSubtype (.type "dict") (.type "type")=pure false:=by rw [GJ];kernel_rfl
theorem Ds(x y:DF):Bind.checkArgs "dict.get" ⟨.positional,"dict.get","get",.self,[⟨"key",.posOnly,true⟩,⟨"default",.posOnly,false⟩]⟩ ⟨[x,y],[]⟩=pure ():=by kernel_rfl
theorem yC{v:DF}{s:DA}{Q:Unit->DA->Prop}(hx:s.heap.get? a=some ⟨.type "dict",none,.dict es n,#[]⟩)(hq:Q () s) :
 wpAny (model prog w) A (checkBoundCall "dict.get" ⟨[.ref a,v],[]⟩) Q E s:=by
 have hT:s.TypeIs (.ref a) "dict":=⟨_,hx,rfl⟩;have f1:=xc;have f2:=C0;unfold checkBoundCall;rw [Ca,Aw];dsimp only;rw [if_neg (by decide)];refine Dz (Hj hT xc ?_);rw [if_neg (by decide +kernel)];unfold isType;refine Dz (Dz ?_);repeat (any_goals (first | assumption | wp_step))
theorem yD{v:DF}{R:Iq->DA->Prop}{s:DA}{q:Ep}(ho:s.heap.get? q=some (d9 a))(hx:s.heap.get? a=some ⟨.type "dict",none,.dict es n,#[]⟩)(h:codeAny (model prog w) A (.builtin "dict.get" ⟨[.ref a,v],[]⟩) R s) :
 codeAny (model prog w) A (.call (.ref q) ⟨[v],[]⟩) R s:=by
 refine IQ ?_;show wpAny _ _ (callAny (.ref q) _) _ _ _;unfold callAny;refine Dz (KF ho ?_);show wpAny _ _ (checkBoundCall "dict.get" _ >>= _) _ _ _;exact Dz (yC hx (DE ⟨HF _ (by decide +kernel),h⟩))
end
noncomputable def rk(a:Ep)(h h':EI):Prop:=∀b o,b≠a->h.get? b=some o->h'.get? b=some o
section
variable {prog:Fc} {w:Fs} {A:Em} {E:DF->DA->Prop} {s:DA} {a:Ep} {vs:List DF} {kz:List Int} {P:Kk->DA->Prop} {f:DF}
theorem Cb{s₀:EI}{kS:Ep}{keys:Array DF}{e e1:Nat}(K:rk a s₀ s.heap)(hz:s₀.objs.size<=kS)(hka:kS≠a)(nk:s.heap.get? kS=some (seqObj "list" keys e))(na:s.heap.get? a=some (seqObj "list" #[] e1))
 (hk:G4 keys.toList kz) (hlen:kz.length=vs.length) (h64:vs.length < 64)
 (h:∀h' tk out c,rk a s₀ h'->h'.get? a=some (seqObj "list" out c)->KskOut false kz vs out.toList->P (.done (.ret .none)) {s with heap:=h',toks:=tk}) :
 wpAny (model prog w) A (ksk_end a false vs.toArray e1 (.ref kS) keys) P E s:=by
 have hsz:keys.size=vs.length:=by have h1:=hk.length;rw [DT] at h1;lia
 have hzs:(keys.zip vs.toArray).size=vs.length:=by rw [Array.size_zip,hsz,FU,Nat.min_self]
 have fin:∀(st:SortSt),(arrOf st).Perm (keys.zip vs.toArray)->SortedTo (arrOf st) (arrOf st).size->failedOf st=none->wpAny (model prog w) A (ksk_tail a false e1 (.ref kS) st) P E s:=by
  intro st hp hs hfl;have hsz2:((arrOf st).map (·.2)).size=vs.length:=by rw [Mg,hp.size_eq,hzs]
  have s1:=Ej s.heap kS (E7 λ_=>(#[]:Array DF));have na1:=(s1.2 a hka.symm).trans na;have s2:=Ej (s.heap.update kS (E7 λ_=>(#[]:Array DF))) a (E7 λ_=>(arrOf st).map (·.2));unfold ksk_tail;refine Dz (Hu nk rfl ?_ (by rw [hsz,EP];exact D9 (DI h64 (by decide))) (Eo _));refine Dz (MP ?_);refine Dz (Ki na1 rfl ?_);refine Dz (Hu na1 rfl ?_ (Eo _) (DM (Ee hsz2) (by rw [EP];exact D9 (DI h64 (by decide)))));rw [hfl];simp only [bne_self_eq_false,Gq,if_false];refine DE (h _ s.toks _ _ (λb o hb eo=>?_) (Hz na1 λ_=>(arrOf st).map (·.2)) (ksk_out (b:=false) hk hp hs));have hbk:b≠kS:=D1 (DI (Ec eo) hz);exact (s2.2 b hb).trans ((s1.2 b hbk).trans (K b o hb eo))
 unfold ksk_end;dsimp only;rw [if_neg DY,if_neg DY];by_cases h2:vs.toArray.size < 2
 · rw [if_pos h2,if_pos h2];refine Dz (DE ?_);rw [StateT.run_pure];refine Dz (DE (fin _ (Array.Perm.refl _) (λi j hij hj=>?_) rfl));have hj2:j < (keys.zip vs.toArray).size:=hj;rw [FU] at h2;have:i=j:=by lia
   subst this;exact F9 _
 · rw [if_neg h2,if_neg h2];rw [FU] at h2;rw [ksk_kind hk (by rw [hsz];exact E2.mp h2)];refine Dz (DE ?_);refine Dz (DU (wpS_sortRuns (a₀:=keys.zip vs.toArray) (st:=SortSt.mk' oneType' (keys.zip vs.toArray) #[] 7 none)
    (Q:=λ_ st'=>(arrOf st').Perm (keys.zip vs.toArray)/\failedOf st'=none/\SortedTo (arrOf st') (keys.zip vs.toArray).size)
    (ksk_intKeys hk) ⟨Array.Perm.refl _,rfl,rfl,rfl⟩ (by rw [hzs];exact E2.mp h2) (by rw [hzs];exact h64) λst' a1 a2 a3=>⟨a1,a2,a3⟩) ?_ λ_ _ e=>e)
   rintro ⟨⟨⟩,st'⟩ s' ⟨rfl,hp,hf,hs⟩;exact fin st' hp (by rw [hp.size_eq];exact hs) hf
inductive oM(s:DA)(a:Ep)(kz:List Int)(e1:Nat)(i:Nat)(s':DA):Prop
 | mk:∀h' tk kA e,s'={s with heap:=h',toks:=tk}->rk a s.heap h'->s.heap.objs.size<=h'.objs.size->h'.get? (s.heap.objs.size+1)=some (seqObj "list" kA e)->h'.get? a=some (seqObj "list" #[] e1)->G4 kA.toList (kz.take i)->oM s a kz e1 i s'
theorem Ax{n:Nat}(ho:s.heap.get? a=some (seqObj "list" vs.toArray n))(hlen:kz.length=vs.length)(h64:vs.length < 64)
 (turn:∀(i:Nat) (v:DF) (k:Int),vs[i]? = some v->kz[i]? = some k->∀(h:EI) (tk:Nat),rk a s.heap h->s.heap.objs.size<=h.objs.size->
  wpAny (model prog w) A (call f [v]) (λr s'=>∃t tk',r=.int k t/\s'={s with heap:=h,toks:=tk'}) (λ_ _=>False) {s with heap:=h,toks:=tk})
 (h:∀h' tk out c,rk a s.heap h'->h'.get? a=some (seqObj "list" out c)->KskOut false kz vs out.toList->P (.done (.ret .none)) {s with heap:=h',toks:=tk}) :
 wpAny (model prog w) A (ksk_tree a f false) P E s:=by
 have ha:a < s.heap.objs.size:=Ec ho;have s1:=Ej s.heap a (E7 λ_=>(#[]:Array DF));obtain ⟨e1,ho1⟩:∃e1,(s.heap.update a (E7 λ_=>(#[]:Array DF))).get? a=some (seqObj "list" #[] e1):=⟨_,Hz ho λ_=>#[]⟩;have hz1:((s.heap.update a (E7 λ_=>(#[]:Array DF))).push (seqObj "tuple" vs.toArray 0)).objs.size=s.heap.objs.size+1:=by rw [FD,JA]
 unfold ksk_tree;refine Dz (Li ho rfl ?_);refine Dz (Hu ho rfl ?_ (by rw [FU,EP];exact D9 (DI h64 (by decide))) (Eo _));refine Dz (Ki ho1 rfl ?_);refine Dz (Kj ?_ (by show vs.length<=_;rw [EP];exact D9 (DI h64 (by decide))));refine Dz (IA ?_ (Eo _));refine D2 ?_;rw [hz1];unfold ksk_rest;refine Dz (Ft ?_);rw [← GN,List.toList_toArray];refine Dz (ksk_fold (oM s a kz e1) vs 0 _
  ⟨_,s.toks,#[],0,rfl,λb o hb e=>?_,by rw [FD,hz1];lia,by rw [← hz1];exact DZ _ rfl,DJ _ (DJ _ ho1),by simpa using IntsAre.nil⟩ ?step ?done)
 · exact DJ _ (DJ _ ((s1.2 b hb).trans e))
 case step=>
  rintro j x s' hx ⟨h',tk,kA,e,rfl,K,hz,nk,na,hk⟩;simp only [FK] at hk ⊢;have hj:j < vs.length:=(DR.mp hx).1;have hkj:kz[j]? = some kz[j]:=DW (by exact DI hj (Ee hlen.symm));have hza:kA.size<=vs.length:=by
   have h1:=hk.length;rw [DT,Lu] at h1;lia
  refine Dz (Mq (DU (turn j x _ hx hkj h' tk K hz) (λv s'' he=>?_) λ_ _ hF=>hF.elim));refine bf he λt2 tk2 e902 e903=>?_;subst e902;subst e903;have s2:=Ej h' (s.heap.objs.size+1) (E7 (·.push (.int kz[j] t2)));have ek:kz.take (j+1)=kz.take j ++ [kz[j]]:=by rw [List.take_add_one,hkj];simp
  refine Dz (Hu nk rfl ?_ (by rw [EP];exact D9 (DI (DC hza h64) (by decide))) (DM (Ee (LQ ..)) (by rw [EP];exact DI (DC hza h64) (by decide))));refine DE ⟨rfl,_,_,kA.push (.int kz[j] t2),_,rfl,λb o hb eo=>(s2.2 b (D1 (En (Ec eo)))).trans (K b o hb eo),DM hz (Ee s2.1.symm),Hz nk _,(s2.2 a (D1 (En ha))).trans na,?_⟩;rw [Fo,ek];exact ksk_snoc hk
 case done=>
  rintro s' ⟨h',tk,kA,e,rfl,K,hz,nk,na,hk⟩;rw [Ii (by lia)] at hk;refine Dz (Li nk rfl ?_);exact Cb (s:={s with heap:=h',toks:=tk}) K (E6 _) (EY (En ha)) nk na hk hlen h64 λh3 tk3 out c K3 n3 k3=>h h3 tk3 out c K3 n3 k3
end
theorem Ay{α β γ δ:Type}{l:List α}{f:α->β}{u:α->γ}{a:List δ}{b:List δ}{F:δ->β}{U:δ->γ}(h1:l.map f=a.map F)(h2:l.map u=b.map U){i:Nat}{x y:δ}(hx:a[i]? = some x)(hy:b[i]? = some y):∃z,l[i]? = some z/\f z=F x/\u z=U y:=by
 have e1:(l.map f)[i]? = some (F x):=by rw [h1,Ef,hx];rfl
 have e2:(l.map u)[i]? = some (U y):=by rw [h2,Ef,hy];rfl
 rw [Ef] at e1 e2;cases q:l[i]? with
 | none=>rw [q] at e1;exact nomatch e1
 | some z=>rw [q] at e1 e2;exact ⟨z,rfl,DN e1,DN e2⟩
theorem rl{α β γ:Type}{f:β->γ}:∀(a:List α) (l:List β),(a.zip l).map (λp=>(f p.2,p.1))=(l.map f).zip a
 | [],_=>by rw [List.zip_nil_right];rfl
 | _::_,[]=>rfl
 | _::a,_::l=>congrArg (_::·) (rl a l)
theorem yE{c:Cx}(G:Gd c):∀(sc:az) (d:String) (pf pd pd2 pa pk p:Pos),d≠"__debug__"->d≠"__classdict__"->sc.lookup "sorted" = some .globalImplicit->SE c sc (.sortedGet d pf pd pd2 pa pk p):=by
 intro sc d pf pd pd2 pa pk p h1 h2 hg A s σ L env ρ Q k hR W F hw;refine hw.casesOn λv hρ hw=>?_;cases hw with
 | @mk q dd ks vals hq hks hvals h64 hw=>
  obtain ⟨T,g1,g2⟩:=Bi.callee_gtab .sorted;show wpAny _ _ (eval (.Call (.Name (Dy "sorted") pf) [.Name (Dy d) pd] [⟨some (Dy "key"),.Attribute (.Name (Dy d) pd2) (Dy "get") pa,pk⟩] p) env) _ _ _;rw [GD];refine Dz (cu G W F hg g1 (callWith_kw ?_));rw [show backTo p (starEach [.Name (Dy d) pd] env)=fb (.cons (.var d pd) .nil) env from eT p (.cons (.var d pd) .nil) env];refine Hn (dz F h1 h2 hρ λu hu=>IH (kws_cons (Ma (dz F h1 h2 hρ λu2 hu2=>?_) (by rw [KG];rfl))));obtain ⟨rfl,_⟩:=hu;obtain ⟨rfl,_⟩:=hu2;refine eB (W.objs q _ hq) λes n ho hes hnd=>?_;have hs:s=⟨s.heap,s.gens,s.drawn,s.toks,s.os⟩:=rfl;rw [hs];refine Av ho (kws_nil ?_);have hk₁:∀b o,s.heap.get? b=some o->(s.heap.push (d9 (L.ad q))).get? b=some o:=λb o e=>DJ _ e;obtain ⟨W1,X1⟩:=W.grow (s':=⟨s.heap.push (d9 (L.ad q)),s.gens,s.drawn,s.toks+1,s.os⟩) (by simp) hk₁ rfl rfl;have hb₁:(s.heap.push (d9 (L.ad q))).get? s.heap.objs.size=some (d9 (L.ad q)):=DZ _ rfl;refine pO (ir W1 hq hks) λkvs ep hm hkk hkl hvr=>?_;show wpAny _ _ (call (.builtin "sorted") [.ref (L.ad q)] [(Dy "key",.ref s.heap.objs.size)]) _ _ _;refine call_function_entry_kw Lz K6 K7 (ksk_s1 _ _) ?_;unfold FO.«sorted»;refine Dz (m:=checkCount "sorted" 1 1 _) (DE ?_);refine Dz (aI (MN (A:=A.in1) (kdl_dict (W.notModules G hq)) hR.1 hm (by rw [EP];exact D9 (DI (DC (Ee hkl) h64) (by decide))) λh' tk acc hkeep hacc hsz=>?_));have hI:=lV hkk hacc;have hln:acc.toList.length=kvs.length:=by rw [DT,hacc.1]
  have hl:acc.toList.length < 64:=by exact DC (DM (Ee hln) (Ee hkl)) h64
  refine Dz (IA ?_ (by rw [EP];exact D9 (DI hl (by decide))));have hoL:(h'.push {cls:=.type "list",data:=.seq acc.toList.toArray}).get? h'.objs.size=some (seqObj "list" acc.toList.toArray 0):=DZ _ rfl;have hk₂:∀b o,s.heap.get? b=some o->(h'.push {cls:=.type "list",data:=.seq acc.toList.toArray}).get? b=some o:=λb o e=>DJ _ (hkeep b o (hk₁ b o e));have hz₂:s.heap.objs.size<=h'.objs.size:=DM (by simp) hsz;refine Dz (D2 (wpAny_call_entry_kw Ke ⟨_,hoL,rfl⟩ JW ?body (ksk_l1 _ _)));case body=>
   rw [ksk_t1];refine Ax (s:=⟨h'.push {cls:=.type "list",data:=.seq acc.toList.toArray},s.gens,s.drawn,tk,s.os⟩) (kz:=vals) hoL (by have:=cV hks;have:=cV hvals;simp only [DD] at *;lia) hl (λi v k' hv hk' h3 tk3 K hz3=>?_) λh3 tk3 out cc K h4 hout=>⟨_,rfl,?_⟩
   · obtain ⟨W3,_⟩:=W.grow (s':=⟨h3,s.gens,s.drawn,tk3,s.os⟩) (DM hz₂ (DM (by simp) hz3)) (λb o e=>K b o (D1 (DI (Ec e) hz₂)) (hk₂ b o e)) rfl rfl;refine eB (W3.objs q _ hq) λes3 n3 ho3 _ _=>?_;have hq3:h3.get? s.heap.objs.size=some (d9 (L.ad q)):=K _ _ (D1 (DI (by simp) hsz)) (DJ _ (hkeep _ _ hb₁));obtain ⟨x,hx⟩:∃x,ks[i]? = some x:=⟨_,DW (by
      have h1:=(DR.mp hv).1;have h3:=cV hks;simp only [DD] at h3;lia)⟩
     obtain ⟨tx,htx⟩:=hI.get i x hx;rw [htx] at hv;cases hv;obtain ⟨⟨z1,z2⟩,hz,rfl,rfl⟩:=Ay (a7 hks) (a7 hvals) hx hk';have hDK:DK dd (.int x):=⟨trivial,Eo _,λkv hkv=>by
      have:kv.1∈dd.map (·.1):=DO.mpr ⟨kv,hkv,rfl⟩;rw [a7 hks,DO] at this;obtain ⟨y,_,e⟩:=this;rw [← e];exact ⟨⟨rfl,rfl⟩,Eo _⟩⟩
     have hu':=hR.units;refine KH (yD hq3 ho3 (FW H9 ?_));rw [Fx (by decide +kernel)];show wpAny _ _ (dictGet (L.ad q) (.int x tx) >>= _) _ _ _;refine Dz (dK W3 (by show A.units+1+1+1+20 < cLine;lia) hq hDK (Exists.intro _ rfl) λt=>⟨λe=>?_,λy v' e hv'=>?_⟩)
     · rw [cG hnd (EC hz)] at e;cases e
     · rw [cG hnd (EC hz)] at e;cases e;obtain ⟨t',rfl⟩:=hv';exact DE ⟨t',t,rfl,rfl⟩
   · refine DE ⟨_,rfl,?_⟩;refine aZ hout λps p1 p2 p3=>?_;have hall:∀x∈ps.map La,∃i t,x=HM i t:=λx hx=>by
      obtain ⟨y,hy,rfl⟩:=DO.mp hx;exact hI.all _ (Hx (p1.mem_iff.mp hy)).2
     have e1:=hw (ps.map λp=>(HJ p.2,p.1)) (by
      have:=p1.map λp:Int×DF=>(HJ p.2,p.1);rw [rl,hI.nums] at this;exact this) (by rw [E5];exact p3.imp λh=>by simpa using h)
     refine aq.newList (n:=cc) W hz₂ (λb o e=>K b o (D1 (DI (Ec e) hz₂)) (hk₂ b o e)) rfl rfl h4 ?_ e1;have:=jv (h:=s.heap) (L:=L) (intsAre_map _ hall);rw [p2]
     simpa [Ea,Function.comp_def] using this
open PySem.SetTable
noncomputable def lcg(M i:Nat):Nat:=(i*5+1) % M
noncomputable def iH(M:Nat):Nat->Nat->Nat
 | 0,i=>i
 | n+1,i=>iH M n (lcg M i)
theorem lK(M a b i:Nat):iH M (a+b) i=iH M b (iH M a i):=by
 induction a generalizing i with
 | zero=>rw [FK];rfl
 | succ a ih=>rw [Ih];exact ih _
noncomputable def ez(M:Nat):Bool:=(DV M).all (λj=>(DV M).any λn=>iH M n 0 == j) && iH M M 0 == 0
theorem Dr:ez 8=true:=by decide +kernel
theorem zx:ez 32=true:=by decide +kernel
theorem xd:ez 128=true:=by decide +kernel
theorem xe{M i j:Nat}(h:ez M=true)(hi:i < M)(hj:j < M):∃n < M,iH M n i=j:=by
 unfold ez at h;rw [FA,Et] at h;have key:∀j < M,∃n < M,iH M n 0=j:=λj hj=>by
  have:=h.1 j (D3.mpr hj);rw [Ip] at this;refine aN this λn hn e=>?_;exact ⟨n,D3.mp hn,beq_iff_eq.mp e⟩
 have h0:iH M M 0=0:=beq_iff_eq.mp h.2;refine aN (key i hi) λa ha e902=>?_;subst e902;refine aN (key j hj) λb hb e902=>?_;subst e902;rcases KO a b with q | q
 · exact ⟨b - a,by lia,by rw [← lK];congr 1;lia⟩
 · by_cases e:a=b
   · exact ⟨0,by lia,by rw [e];rfl⟩
   · refine ⟨M - a+b,by lia,?_⟩;rw [← lK,show a+(M - a+b)=M+b by lia,lK,h0]
theorem nM(mask i p:Nat):leap mask i p=((i*5+1+p / 32) % (mask+1),p / 32):=rfl
noncomputable def cS(mask:Nat):Nat->Nat×Nat->Nat×Nat
 | 0,x=>x
 | n+1,x=>cS mask n (leap mask x.1 x.2)
theorem xf(mask a b:Nat)(x:Nat×Nat):cS mask (a+b) x=cS mask b (cS mask a x):=by
 induction a generalizing x with
 | zero=>rw [FK];rfl
 | succ a ih=>rw [Ih];exact ih _
theorem oN(mask:Nat):∀(n:Nat) (x:Nat×Nat),(cS mask n x).2=x.2 / 32 ^ n
 | 0,x=>by simp [cS]
 | n+1,x=>by rw [cS,oN mask n,nM,Nat.div_div_eq_div_mul,MB,Lg]
theorem rm(mask:Nat):∀(n:Nat) (x:Nat×Nat),x.1 < mask+1->(cS mask n x).1 < mask+1
 | 0,x,h=>h
 | n+1,x,h=>rm mask n _ (by rw [nM];exact Iy _ (FB _))
theorem mO(mask:Nat):∀(n i:Nat),(cS mask n (i,0)).1=iH (mask+1) n i
 | 0,i=>rfl
 | n+1,i=>by rw [cS,nM];simp only [Nat.zero_div,Nat.add_zero];exact mO mask n _
theorem mP{mask i p j:Nat}(h:ez (mask+1)=true)(hi:i < mask+1)(hp:p < 2 ^ 64)(hj:j < mask+1):∃n < mask+14,(cS mask n (i,p)).1=j:=by
 have h13:(cS mask 13 (i,p)).2=0:=by rw [oN];exact Nat.div_eq_of_lt (DI hp (by decide))
 refine aN (xe h (rm mask 13 (i,p) hi) hj) λn hn e=>?_;refine ⟨13+n,by lia,?_⟩;rw [xf];have:cS mask 13 (i,p)=((cS mask 13 (i,p)).1,0):=by rw [← h13]
 rw [this,mO];exact e
theorem tC(h:Int):bits h < 2 ^ 64:=by unfold bits;have:=Int.emod_lt_of_pos h (b:=2 ^ 64) (by decide);have:=Int.emod_nonneg h (b:=2 ^ 64) (by decide);lia
theorem oO(mask i:Nat):i<=runEnd mask i/\runEnd mask i<=i+9:=by unfold runEnd;split <;> lia
noncomputable def eH(t:SetTable):Nat->Probe->Probe
 | 0,p=>p
 | n+1,p=>eH t n (t.advance p)
theorem yF(t:SetTable)(a b:Nat)(p:Probe):eH t (a+b) p=eH t b (eH t a p):=by
 induction a generalizing p with
 | zero=>rw [FK];rfl
 | succ a ih=>rw [Ih];exact ih _
noncomputable def ps(t:SetTable)(x:Nat×Nat):Probe:={j:=x.1,more:=runEnd t.mask x.1 - x.1,i:=x.1,perturb:=x.2,dummy:=none}
theorem tD(t:SetTable):∀(m j i p:Nat),eH t (m+1) ⟨j,m,i,p,none⟩=ps t (leap t.mask i p)
 | 0,j,i,p=>by unfold eH eH advance;rw [if_neg (Fi 0)];rfl
 | m+1,j,i,p=>by
  have:=tD t m (j+1) i p;rw [eH];unfold advance;rw [if_pos (FB m)];exact this
theorem oP(t:SetTable):∀(n:Nat) (x:Nat×Nat),∃m≤10*n,eH t m (ps t x)=ps t (cS t.mask n x)
 | 0,x=>⟨0,DQ _,rfl⟩
 | n+1,x=>by
  refine aN (oP t n (leap t.mask x.1 x.2)) λm hm e=>?_;have:=oO t.mask x.1;refine ⟨runEnd t.mask x.1 - x.1+1+m,by lia,?_⟩;rw [yF];unfold ps at e ⊢;rw [tD];exact e
theorem sx{t:SetTable}(h:ez (t.mask+1)=true)(hs:Int){j:Nat}(hj:j < t.mask+1):∃m < 10*turns t.mask,(eH t m (t.probeStart hs)).j=j:=by
 refine aN (mP h (i:=bits hs % (t.mask+1)) (Iy _ (FB _)) (tC hs) hj) λn hn e=>?_;refine aN (oP t n (bits hs % (t.mask+1),bits hs)) λm hm e2=>?_;refine ⟨m,by unfold turns;lia,?_⟩;have:t.probeStart hs=ps t (bits hs % (t.mask+1),bits hs):=rfl;rw [this,e2];exact e
theorem iI(xs:Array Nat)(j:Nat):∀(f lo hi:Nat),lo<=hi->Jh xs j f lo hi<=hi
 | 0,lo,hi,h=>h
 | f+1,lo,hi,h=>by
  show (if lo < hi then (if xs.getD ((lo+hi) / 2) j < j then Jh xs j f ((lo+hi) / 2+1) hi else Jh xs j f lo ((lo+hi) / 2)) else lo)<=hi;by_cases q:lo < hi
  · rw [if_pos q];by_cases q2:xs.getD ((lo+hi) / 2) j < j
    · rw [if_pos q2];exact iI xs j f _ _ (by lia)
    · rw [if_neg q2];exact DM (iI xs j f _ _ (by lia)) (by lia)
  · rw [if_neg q];exact h
theorem lL(xs:Array Nat)(j:Nat):below xs j<=xs.size:=iI xs j _ _ _ (Eo _)
theorem xg{t:SetTable}(hd:t.dummies=#[])(hf:t.place.size<=t.mask):∃j < t.mask+1,t.slot j=.empty:=by
 obtain ⟨j,hj,hn⟩:∃j < t.mask+1,j∉t.place.toList:=by
  apply FZ;intro h;have h:∀j < t.mask+1,j∈t.place.toList:=λj hj=>FZ λq=>h ⟨j,hj,q⟩;have h1:DV (t.mask+1) ⊆ t.place.toList:=λj hj=>h j (D3.mp hj);have h2:=(F8 (n:=t.mask+1)).length_le_of_subset h1;simp at h2;lia
 refine ⟨j,hj,?_⟩;unfold slot;rw [if_neg,if_neg]
 · rw [hd];simp [has]
 · intro e;exact hn (by rw [beq_iff_eq] at e;exact Fu.mpr (J1 e))
theorem xh{t:SetTable}{j i:Nat}(h:t.slot j=.live i):t.place[i]? = some j:=by
 unfold slot at h;dsimp only at h;split at h
 · cases h;rename_i e;exact beq_iff_eq.mp e
 · split at h <;> cases h
theorem nN{t:SetTable}(hd:t.dummies=#[])(j:Nat):t.slot j≠.dummy:=by
 unfold slot;dsimp only;split
 · simp
 · rw [hd];simp [has]
theorem eA(t:SetTable)(p:Probe):(t.advance p).dummy=p.dummy:=by unfold advance;split <;> rfl
theorem rn{t:SetTable}{hashAt:Nat->Int}{h:Int}{f:Nat}{p:Probe}(hs:t.slot p.j=.empty):Ij t hashAt h (f+1) p=some (.empty p.j p.dummy):=by
 show (match t.slot p.j with | .empty=>some (Met.empty p.j p.dummy) | .dummy=>_ | .live i=>_)=_;rw [hs]
theorem yG{t:SetTable}{hashAt:Nat->Int}{h:Int}{f:Nat}{p:Probe}(hs:t.slot p.j=.dummy):Ij t hashAt h (f+1) p=Ij t hashAt h f (t.advance {p with dummy:=some p.j}):=by
 show (match t.slot p.j with | .empty=>_ | .dummy=>Ij t hashAt h f (t.advance {p with dummy:=some p.j}) | .live i=>_)=_;rw [hs]
theorem tE{t:SetTable}{hashAt:Nat->Int}{h:Int}{f:Nat}{p:Probe}{i:Nat}(hs:t.slot p.j=.live i):Ij t hashAt h (f+1) p=if hashAt i == h then some (.candidate p.j i (t.advance p)) else Ij t hashAt h f (t.advance p):=by
 show (match t.slot p.j with | .empty=>_ | .dummy=>_ | .live i=>if hashAt i == h then some (Met.candidate p.j i (t.advance p)) else Ij t hashAt h f (t.advance p))=_;rw [hs]
inductive tF(t:SetTable)(hashAt:Nat->Int)(h:Int)(n:Nat):Option Met->Prop
 | free (j:Nat):tF t hashAt h n (some (.empty j none))
 | cand (j i:Nat) (next:Probe) (n':Nat):t.slot j=.live i->hashAt i=h->n' < n->next.dummy=none->t.slot (eH t n' next).j=.empty->tF t hashAt h n (some (.candidate j i next))
theorem tF.up{t:SetTable}{hashAt:Nat->Int}{h:Int}{n:Nat}{r:Option Met}(e:tF t hashAt h n r):tF t hashAt h (n+1) r:=
 e.casesOn .free λj i nx n' h1 h2 h3=>.cand j i nx n' h1 h2 (En h3)
theorem rp{t:SetTable}(hd:t.dummies=#[])(hashAt:Nat->Int)(h:Int):∀(n f:Nat) (p:Probe),n < f->p.dummy=none->t.slot (eH t n p).j=.empty->tF t hashAt h n (Ij t hashAt h f p)
 | n,0,p,hf,_,_=>absurd hf (Fy _)
 | n,f+1,p,hf,hp,he=>by
  cases hs:t.slot p.j with
  | empty=>rw [rn hs,hp];exact .free _
  | dummy=>exact absurd hs (nN hd _)
  | live i=>
   rw [tE hs];cases n with
   | zero=>rw [eH,hs] at he;exact nomatch he
   | succ n=>
    by_cases q:hashAt i == h
    · rw [if_pos q];exact .cand _ _ _ n hs (beq_iff_eq.mp q) (D6 _) ((eA _ _).trans hp) he
    · rw [if_neg q];exact (rp hd hashAt h n f (t.advance p) (JO hf) ((eA _ _).trans hp) he).up
theorem ru{α:Type}{x:α}:∀{l:List (Option α)} {j:Nat},l[j]? = some none->((l.set j (some x)).filterMap id).Perm (x::l.filterMap id)
 | [],j,h=>by simp at h
 | a::l,0,h=>by simp at h;subst h;simp
 | a::l,j+1,h=>by
  have:=ru (x:=x) (l:=l) (j:=j) (by simpa using h);cases a with
  | none=>simpa using this
  | some a=>simpa using (this.cons a).trans (List.Perm.swap _ _ _)
theorem oQ{α:Type}:∀{l:List (Option α)},(l.filterMap id).length < l.length->∃j:Nat,l[j]? = some none
 | [],h=>by simp at h
 | none::l,h=>⟨0,rfl⟩
 | some a::l,h=>by
  obtain ⟨j,e⟩:=oQ (l:=l) (by simpa using h);exact ⟨j+1,by simpa using e⟩
theorem xi{mask f i p k:Nat}{owner:Array (Option Nat)}(h:((DV (runEnd mask i+1 - i)).find? λk=>(owner.getD (i+k) (some 0)).isNone)=some k):Gm mask owner (f+1) i p=some (i+k):=by
 show (match (DV (runEnd mask i+1 - i)).find? (λk=>(owner.getD (i+k) (some 0)).isNone) with | some k=>some (i+k) | none=>Gm mask owner f (leap mask i p).1 (leap mask i p).2)=_;rw [h]
theorem xj{mask f i p:Nat}{owner:Array (Option Nat)}(h:((DV (runEnd mask i+1 - i)).find? λk=>(owner.getD (i+k) (some 0)).isNone)=none):Gm mask owner (f+1) i p=Gm mask owner f (leap mask i p).1 (leap mask i p).2:=by
 show (match (DV (runEnd mask i+1 - i)).find? (λk=>(owner.getD (i+k) (some 0)).isNone) with | some k=>some (i+k) | none=>Gm mask owner f (leap mask i p).1 (leap mask i p).2)=_;rw [h]
theorem tG{mask:Nat}{owner:Array (Option Nat)}(hz:owner.size=mask+1):∀(n f i p:Nat),n < f->i < mask+1->owner[(cS mask n (i,p)).1]? = some none->∃j,Gm mask owner f i p=some j/\owner[j]? = some none
 | n,0,i,p,h,_,_=>absurd h (Fy _)
 | n,f+1,i,p,h,hi,he=>by
  cases hq:(DV (runEnd mask i+1 - i)).find? λk=>(owner.getD (i+k) (some 0)).isNone with
  | some k=>
   refine ⟨_,xi hq,?_⟩;have h1:=List.find?_some hq;unfold Ji at h1;split at h1
   · rename_i hlt;rw [D8 hlt]
     simpa using h1
   · simp at h1
  | none=>
   cases n with
   | zero=>
    have h0:=List.find?_eq_none.mp hq 0 (D3.mpr (by have:=oO mask i;lia));have he:owner[i]? = some none:=he;obtain ⟨hlt,e⟩:=EX.mp he;simp [Ji,hlt,e] at h0
   | succ n=>exact xj hq▸tG hz n f _ _ (by lia) (Iy _ (FB _)) he
theorem tH{mask:Nat}(hm:ez (mask+1)=true):∀(hs:List Int) (owner:Array (Option Nat)) (k:Nat),owner.size=mask+1->(owner.toList.filterMap id).Perm (DV k)->k+hs.length<=mask->
 ∃ow,(hs.foldl (λacc h=>do
  let (owner,k) ← acc;let j ← Gm mask owner (turns mask) (bits h % (mask+1)) (bits h)
  pure (owner.setIfInBounds j (some k),k+1)) (some (owner,k)))=some (ow,k+hs.length)/\ow.size=mask+1/\(ow.toList.filterMap id).Perm (DV (k+hs.length))
 | [],owner,k,hz,hp,_=>⟨owner,rfl,hz,hp⟩
 | h::hs,owner,k,hz,hp,hk=>by
  rw [Gn] at hk;obtain ⟨j,hj⟩:=oQ (l:=owner.toList) (by rw [hp.length_eq,Ez,DT];lia);rw [Eu] at hj;obtain ⟨n,hn,e⟩:=mP hm (i:=bits h % (mask+1)) (Iy _ (FB _)) (tC h) (j:=j) (by have:=(EX.mp hj).1;exact DI this (Ee hz));obtain ⟨j',h1,h2⟩:=tG hz n (turns mask) (bits h % (mask+1)) (bits h) (by unfold turns;lia) (Iy _ (FB _)) (by rw [e];exact hj);rw [List.foldl_cons];have e1:(do
   let (owner,k) ← some (owner,k);let j ← Gm mask owner (turns mask) (bits h % (mask+1)) (bits h)
   pure (owner.setIfInBounds j (some k),k+1))=some (owner.setIfInBounds j' (some k),k+1):=by
   show (Gm mask owner (turns mask) (bits h % (mask+1)) (bits h) >>= λj=>pure (owner.setIfInBounds j (some k),k+1))=_;rw [h1];rfl
  rw [e1];obtain ⟨ow,g1,g2,g3⟩:=tH hm hs (owner.setIfInBounds j' (some k)) (k+1) (by rw [Array.size_setIfInBounds];exact hz) (by
   rw [I5];refine (ru (by rw [Eu];exact h2)).trans ?_;rw [Gu];exact (hp.cons k).trans (Jj _ _).symm) (by lia)
  exact ⟨ow,by rw [g1,Gn];congr 2;lia,g2,by rw [Gn];rw [show k+(hs.length+1)=k+1+hs.length by lia];exact g3⟩
theorem Az{mask fg mv:Nat}{led pl:Bool}{hs:Array Int}(hm:ez (mask+1)=true)(hn:hs.size<=mask) :
 ∃t order,laid mask fg mv led pl hs=some (t,order)/\t.mask=mask/\t.dummies=#[]/\t.led=led/\t.plain=pl/\order.toList.Perm (DV hs.size)/\t.place.size=hs.size:=by
 obtain ⟨ow,h1,h2,h3⟩:=tH hm hs.toList (Array.replicate (mask+1) none) 0 (by simp) (by simp) (by rw [DT];lia);have hc:layClean mask hs=some ow:=by
  unfold layClean;rw [← Array.foldl_toList,h1];rfl
 rw [FK,DT] at h3;have hlive:((DV (mask+1)).filterMap λj=>(ow.getD j none).map (j,·)).map (·.2)=ow.toList.filterMap id:=by
  rw [I9];have:ow.toList=(DV (mask+1)).map λj=>ow.getD j none:=by
   refine G5 λi=>?_;rw [Ef,Eu];by_cases q:i < mask+1
   · rw [Gg q,D8 (by exact DI q (Ee h2.symm))];simp [Ji,h2,q]
   · rw [E8 (by simpa using q),GR (by exact DM (Ee h2) (E2.mp q))];rfl
  rw [this,KI]
  congr 1
  funext j
  cases q:ow.getD j none <;> simp_all [Function.comp]
 unfold laid;rw [hc];refine ⟨_,_,rfl,rfl,rfl,rfl,rfl,?_,?_⟩
 · dsimp only;rw [hlive];exact h3
 · dsimp only;have:=h3.length_eq;rw [← hlive] at this
   simpa using this
noncomputable def cO(xs:Array Nat):Prop:=xs.toList.Pairwise (· < ·)
theorem cO.lt{xs:Array Nat}(h:cO xs){i j a b:Nat}(hij:i < j)(hi:xs[i]? = some a)(hj:xs[j]? = some b):a < b:=by
 obtain ⟨h1,rfl⟩:=EX.mp hi;obtain ⟨h2,rfl⟩:=EX.mp hj;have:=List.pairwise_iff_getElem.mp h i j (by simpa using h1) (by simpa using h2) hij
 simpa using this
theorem gb{xs:Array Nat}(h:cO xs)(j:Nat):∀(f lo hi:Nat),hi - lo<=f->lo<=hi->hi<=xs.size->(∀k a,k < lo->xs[k]? = some a->a < j)->(∀k a,hi<=k->xs[k]? = some a->j<=a)->
 (∀k a,k < Jh xs j f lo hi->xs[k]? = some a->a < j)/\(∀k a,Jh xs j f lo hi<=k->xs[k]? = some a->j<=a)
 | 0,lo,hi,hf,hl,_,h1,h2=>by
  have:lo=hi:=by lia
  subst this;exact ⟨h1,h2⟩
 | f+1,lo,hi,hf,hl,hz,h1,h2=>by
  have e0:Jh xs j (f+1) lo hi=if lo < hi then (if xs.getD ((lo+hi) / 2) j < j then Jh xs j f ((lo+hi) / 2+1) hi else Jh xs j f lo ((lo+hi) / 2)) else lo:=rfl
  rw [e0];clear e0;by_cases q:lo < hi
  · rw [if_pos q];have hm:(lo+hi) / 2 < xs.size:=by lia
    have e:xs[(lo+hi) / 2]? = some (xs.getD ((lo+hi) / 2) j):=by rw [D8 hm];exact congrArg some (dif_pos hm).symm
    by_cases q2:xs.getD ((lo+hi) / 2) j < j
    · rw [if_pos q2];refine gb h j f _ hi (by lia) (by lia) hz (λk a hk ha=>?_) h2;rcases FP k ((lo+hi) / 2) with g | g
      · exact DH (h.lt g ha e) q2
      · have:k=(lo+hi) / 2:=by lia
        rw [this,e] at ha;rw [← DN ha];exact q2
    · rw [if_neg q2];refine gb h j f lo _ (by lia) (by lia) (by exact D9 hm) h1 λk a hk ha=>?_;rcases FP ((lo+hi) / 2) k with g | g
      · exact D9 (DC (E2.mp q2) (h.lt g e ha))
      · have:k=(lo+hi) / 2:=by lia
        rw [this,e] at ha;rw [← DN ha];exact E2.mp q2
  · rw [if_neg q];have:lo=hi:=by lia
    subst this;exact ⟨h1,h2⟩
theorem gp{xs:Array Nat}(h:cO xs)(j:Nat):(∀k a,k < below xs j->xs[k]? = some a->a < j)/\(∀k a,below xs j<=k->xs[k]? = some a->j<=a):=
 gb h j _ 0 _ (by lia) (Eo _) (DQ _) (λk a hk _=>absurd hk (Fy _)) λk a hk ha=>absurd (EX.mp ha).1 (by lia)
theorem vc{xs:Array Nat}(h:cO xs):below xs 0=0:=by
 by_cases q:below xs 0=0
 · exact q
 · have hl:=lL xs 0;have:=(gp h 0).1 0 _ (by lia) (D8 (by lia));exact absurd this (Fy _)
theorem vd{xs:Array Nat}(h:cO xs){i a:Nat}(ha:xs[i]? = some a):below xs (a+1)=i+1:=by
 have hl:=lL xs (a+1);have hi:=(EX.mp ha).1;rcases Nat.lt_trichotomy (below xs (a+1)) (i+1) with q | q | q
 · have:=(gp h (a+1)).2 i a (by lia) ha;lia
 · exact q
 · have hlt:i+1 < xs.size:=by exact DI q hl
   have h1:=(gp h (a+1)).1 (i+1) _ q (D8 hlt);have h2:=h.lt (D6 i) ha (D8 hlt);lia
noncomputable def rx(t:SetTable)(j:Nat):Prop:=t.place[below t.place j]?≠some j
theorem tI{t:SetTable}{j:Nat}(h:t.slot j=.empty\/t.slot j=.dummy):rx t j:=by
 unfold slot at h;dsimp only at h;split at h
 · rcases h with h | h <;> cases h
 · rename_i q;intro e;exact q (by rw [e];simp)
theorem jf{t:SetTable}{hashAt:Nat->Int}{h:Int}:∀(f:Nat) (p:Probe) (j:Nat) (d:Option Nat),(∀x,p.dummy=some x->rx t x)->Ij t hashAt h f p=some (.empty j d)->rx t j/\∀x,d=some x->rx t x
 | 0,p,j,d,_,e=>by cases e
 | f+1,p,j,d,hp,e=>by
  cases hs:t.slot p.j with
  | empty=>
   rw [rn hs] at e;injection e with e;injection e with e1 e2
   rw [← e1,← e2];exact ⟨tI (.inl hs),hp⟩
  | dummy=>
   rw [yG hs] at e;exact jf f _ j d (λx hx=>by rw [eA] at hx;rw [← DN hx];exact tI (.inr hs)) e
  | live i=>
   rw [tE hs] at e;by_cases q:hashAt i == h
   · rw [if_pos q] at e;injection e with e;injection e
   · rw [if_neg q] at e;exact jf f _ j d (λx hx=>by rw [eA] at hx;exact hp x hx) e
theorem gc{α:Type}(xs:Array α)(p:Nat)(x:α):(insertAt xs p x).toList=xs.toList.take p ++ x::xs.toList.drop p:=by
 unfold insertAt;simp only [Hp,Fo,Array.toList_extract,List.extract_eq_take_drop,KP,L7,Ey,List.singleton_append];rw [Ii (l:=xs.toList.drop p) (by simp)]
theorem sy{t:SetTable}(h:cO t.place){j:Nat}(ha:rx t j):cO (insertAt t.place (below t.place j) j):=by
 have hs:=gp h j;unfold cO at h ⊢;rw [gc];have hc:=Io (below t.place j) t.place.toList;have h':=h;rw [← hc,He] at h';have hlt:∀a∈t.place.toList.take (below t.place j),a < j:=λa m=>by
  obtain ⟨k,hk⟩:=FI.mp m;rw [List.getElem?_take] at hk;split at hk
  · exact hs.1 k a (by assumption) (by rw [← Eu];exact hk)
  · cases hk
 have hgt:∀a∈t.place.toList.drop (below t.place j),j < a:=λa m=>by
  obtain ⟨k,hk⟩:=FI.mp m;rw [List.getElem?_drop,Eu] at hk;have h1:=hs.2 _ a (Ed _ k) hk;rcases Nat.lt_or_eq_of_le h1 with q | q
  · exact q
  · subst q;exfalso;cases k with
    | zero=>exact ha hk
    | succ k=>
     have hz:=(EX.mp hk).1;have hb:below t.place j < t.place.size:=by lia
     have h2:=hs.2 _ _ (DQ _) (D8 hb);have h3:=cO.lt (xs:=t.place) h (show below t.place j < below t.place j+(k+1) by lia) (D8 hb) hk;lia
 rw [He];refine ⟨h'.1,?_,?_⟩
 · rw [GQ];exact ⟨hgt,h'.2.1⟩
 · intro a ha' b hb;rcases D5.mp hb with rfl | hb
   · exact hlt a ha'
   · exact DH (hlt a ha') (hgt b hb)
noncomputable def dT(l:Bool)(t:SetTable):Prop:=t.led=l/\(t.plain=true->cO t.place)
theorem dT.standIn{l:Bool}{t:SetTable}(h:dT l t)(n:Nat):dT l (t.standIn n):=⟨h.1,λe=>by cases e⟩
theorem dT.layNew{l:Bool}{t:SetTable}(h:dT l t)(es:Array (Int×DF))(hs:Int)(x:DF):dT l (layNew t es hs x).2.1:=by
 unfold PySem.layNew;split
 · rename_i slot wd e;dsimp only;unfold orStandIn;split
   · refine ⟨h.1,λhp=>?_⟩;refine sy (h.2 hp) ?_;unfold freeSlot at e;split at e
     · rename_i j d hq;cases e;obtain ⟨h1,h2⟩:=jf _ _ _ _ (λx hx=>by cases hx) hq;cases d with
       | none=>exact h1
       | some y=>exact h2 y rfl
     · cases e
   · exact ⟨h.1,λe=>by cases e⟩
 · exact h.standIn _
theorem xk{mask fg mv:Nat}{led pl:Bool}{hs:Array Int}{t:SetTable}{o:Array Nat}(h:laid mask fg mv led pl hs=some (t,o)):cO t.place/\t.led=led/\t.plain=pl:=by
 unfold laid at h;cases q:layClean mask hs with
 | none=>rw [q] at h;cases h
 | some ow=>
  rw [q] at h;cases h;refine ⟨?_,rfl,rfl⟩;unfold cO;rw [E5,List.pairwise_filterMap];refine Gk.imp λ{a b} hab c hc d hd=>?_;obtain ⟨_,_,rfl⟩:=Ew.mp hc;obtain ⟨_,_,rfl⟩:=Ew.mp hd;exact hab
theorem dT.relayAll{l:Bool}{t:SetTable}(h:dT l t)(es:Array (Int×DF))(n:Nat):dT l (relayAll t es n).2.1:=by
 unfold PySem.relayAll;split
 · rename_i t' o e;dsimp only;split
   · unfold relaid at e;obtain ⟨h1,h2,h3⟩:=xk e;exact ⟨h2.trans h.1,λ_=>h1⟩
   · exact h.standIn _
 · exact h.standIn _
theorem gq{X:PV}(h:bD X=true):∃(o:Ek) (ns:List Int),X=.tup (.str o::ns.map .int):=by
 cases X with
 | tup l=>cases l with
  | nil=>exact nomatch h
  | cons x r=>cases x with
   | str o=>
    have h:(a6 r).isSome=true:=h;cases e:a6 r with
    | none=>rw [e] at h;exact nomatch h
    | some ns=>exact ⟨o,ns,by rw [a7 e]⟩
   | _=>exact nomatch h
 | _=>exact nomatch h
theorem sz(ns:List Int):fJ (ns.map PV.int):=by
 induction ns with
 | nil=>trivial
 | cons n ns ih=>exact ⟨trivial,ih⟩
theorem sA(ns:List Int):∀ms:List Int,eR (ns.map PV.int) (ms.map PV.int):=by
 induction ns with
 | nil=>intro ms;trivial
 | cons n ns ih=>
  intro ms;cases ms with
  | nil=>trivial
  | cons m ms=>exact ⟨⟨rfl,rfl⟩,ih ms⟩
theorem sC(ns:List Int):aP (ns.map PV.int)=0:=by
 induction ns with
 | nil=>rfl
 | cons n ns ih=>show max 0 (aP (ns.map PV.int))=0;rw [ih];rfl
theorem eJ{X:PV}(h:bD X=true):cY X/\aK X<=8:=by
 obtain ⟨o,ns,rfl⟩:=gq h;exact ⟨⟨trivial,sz ns⟩,by show max 0 (aP (ns.map PV.int))+1<=8;rw [sC];decide⟩
theorem ry{X Y:PV}(h:bD X=true)(h':bD Y=true):cZ X Y:=by
 obtain ⟨o,ns,rfl⟩:=gq h;obtain ⟨o',ms,rfl⟩:=gq h';exact ⟨⟨rfl,rfl⟩,sA ns ms⟩
section
variable {prog:Fc} {w:Fs} {A:Em} {E:DF->DA->Prop} {s:DA} {L:ao} {X:PV} {v:DF}
theorem bY(hX:bD X=true)(hv:ak L s.heap X v):∃a items n,v=.ref a/\s.heap.get? a=some ⟨.type "tuple",FL,.seq items n,#[]⟩/\∃o t r,items.toList=.str o t::r/\∀x∈r,∃i t,x=HM i t:=by
 obtain ⟨o,ns,rfl⟩:=gq hX;obtain ⟨a,items,n,rfl,ha,_,hl⟩:=hv;obtain ⟨x,r,e,hx,hr⟩:=hl;obtain ⟨t,rfl⟩:=hx;refine ⟨a,items,n,rfl,ha,o,t,r,e,?_⟩;clear e ha hX;induction ns generalizing r with
 | nil=>exact ag.nilE (m:=λr=>∀x∈r,∃i t,x=HM i t) hr λx hx=>(DX hx).elim
 | cons m ns ih=>
  refine ag.consE (m:=λr=>∀x∈r,∃i t,x=HM i t) hr λx r' hx hr=>hx.intE λt' x hx=>?_;rcases D5.mp hx with rfl | hx
  · exact ⟨m,t',rfl⟩
  · exact ih r' hr x hx
theorem oR{d:Nat}{Q:Bool->DA->Prop}(hX:bD X=true)(hv:ak L s.heap X v)(h:Q false s):wpAny (model prog w) A (ofAClassStatement (d+1) v) Q E s:=by
 obtain ⟨a,items,n,rfl,ha,o,t,r,e,hr⟩:=bY hX hv;have hT:=da ha;unfold ofAClassStatement;refine Dz (Hl hT ?_);dsimp only;rw [if_pos (by decide)];refine Dz (DE ?_);rw [if_neg (by decide)];refine Dz (Ha ha rfl ?_);refine Dz ?_;rw [← GN];refine F6 _ (λrest b s'=>b=(none,())/\s'=s/\∀x∈rest,(∃o t,x=Lv o t)\/∃i t,x=HM i t) _ ?_ ?_ _ _ ⟨rfl,rfl,λx hx=>?_⟩
 · rintro x rest b s' ⟨rfl,rfl,hx⟩;have hf:ofAClassStatement d x=pure false:=by
    rcases hx x (EJ ..) with ⟨_,_,rfl⟩ | ⟨_,_,rfl⟩ <;> (cases d <;> rfl)
   rw [hf];exact Dz (DE (DE ⟨rfl,rfl,λy hy=>hx y (E3 _ hy)⟩))
 · rintro b s' ⟨rfl,rfl,_⟩;exact DE h
 · rw [e] at hx;rcases D5.mp hx with rfl | hx
   · exact .inl ⟨_,_,rfl⟩
   · exact .inr (hr x hx)
theorem yH{Q:Bool->DA->Prop}{stored:List DF}(hX:bD X=true)(hv:ak L s.heap X v)(hs:∀y∈stored,∃Y,bD Y=true/\ak L s.heap Y y)(h:Q false s):wpAny (model prog w) A (searchCouldBeSeen v stored) Q E s:=by
 unfold searchCouldBeSeen;refine Dz ?_;refine F6 _ (λrest b s'=>b=(none,())/\s'=s/\∀y∈rest,∃Y,bD Y=true/\ak L s.heap Y y) _ ?_ ?_ _ _ ⟨rfl,rfl,hs⟩
 · rintro y rest b s' ⟨rfl,rfl,hy⟩;obtain ⟨Y,hY,hyv⟩:=hy y (EJ ..);have next:wpAny (model prog w) A (pure (FV ((none:Option Bool),()))) (λr s''=>match r with | .yield b'=>b'=(none,())/\s''=s'/\∀y∈rest,∃Y,bD Y=true/\ak L s'.heap Y y | .done b'=>False) E s':=
    DE ⟨rfl,rfl,λz hz=>hy z (E3 _ hz)⟩
   refine iW (bY hX hv) λa _ _ e903 _=>?_;subst e903;refine iW (bY hY hyv) λb _ _ e903 _=>?_;subst e903;by_cases q:(a == b || carriedByValue (F7 a) && carriedByValue (F7 b))=true
   · rw [if_pos q];exact DU next (λr s'' hr=>by cases r with | yield _=>exact hr | done _=>exact hr.elim) λ_ _ e=>e
   · rw [if_neg q];refine Dz (iY 8 (eJ hX).2 (eJ hX).1 hv ?_);rw [if_neg (by decide)];refine Dz (iY 8 (eJ hY).2 (eJ hY).1 hyv ?_);rw [if_neg (by decide)];refine Dz (oR hX hv ?_);rw [if_neg (by decide)];refine Dz (oR hY hyv ?_);rw [if_neg (by decide)];exact DU next (λr s'' hr=>by cases r with | yield _=>exact hr | done _=>exact hr.elim) λ_ _ e=>e
 · rintro b s' ⟨rfl,rfl,_⟩;exact DE h
end
noncomputable def aU(es:Array (Int×DF))(ep:Nat)(t:SetTable):Obj:=⟨.type "set",none,.set es ep t,#[]⟩
structure gd(t:SetTable)(n:Nat):Prop where
 dum:t.dummies=#[]
 size:t.place.size=n
 mask:t.mask=7/\n<=4\/t.mask=31/\n<=18\/t.mask=127/\n < 60
theorem gd.lcg{t:SetTable}{n:Nat}(h:gd t n):ez (t.mask+1)=true/\n < t.mask/\t.gaveWay=false:=by
 unfold gaveWay;rcases h.mask with ⟨e,hn⟩ | ⟨e,hn⟩ | ⟨e,hn⟩ <;> rw [e]
 · exact ⟨Dr,by exact DC hn (by decide),rfl⟩
 · exact ⟨zx,by exact DC hn (by decide),rfl⟩
 · exact ⟨xd,by exact DI hn (by decide),rfl⟩
theorem gd.fits{t:SetTable}{n:Nat}(h:gd t n):t.fits n=true:=by
 have:=h.lcg;unfold Jv Mr;rw [h.dum,h.size];simp;exact D9 this.2.1
section
variable {prog:Fc} {w:Fs} {A:Em} {E:DF->DA->Prop} {s:DA} {L:ao} {X:PV} {v:DF} {S:Ep} {es:Array (Int×DF)} {ep:Nat} {t:SetTable}
noncomputable def ve(w:Fs)(L:ao)(h:EI)(es:Array (Int×DF)):Prop:=∀e∈es.toList,∃Y,bD Y=true/\ak L h Y e.2
theorem Cc{α:Type}{M:HK}{c:Bool}{m:Sem Bool}{K K2:Sem α}{Q:α->DA->Prop}(hm:∀Q':Bool->DA->Prop,Q' false s->wpAny M A m Q' E s)(hK:wpAny M A K Q E s) :
 wpAny M A (if c=true then (m >>= λb=>if b=true then K2 else K) else K) Q E s:=by
 cases c with
 | true=>exact Dz (hm _ hK)
 | false=>exact hK
theorem xl(hu:A.units+10 < cLine)(ho:s.heap.get? S=some (aU es ep t))(T:gd t es.size)(hX:bD X=true)(hv:ak L s.heap X v)(hes:ve w L s.heap es){hs:Int}{Q:SetFound->DA->Prop}
 (hfree:∀j tk,Q (.free j false) {s with toks:=tk}) (hthere:∀e∈es.toList,ak L s.heap X e.2->∀tk,Q (.there none) {s with toks:=tk}) :
 ∀(f n:Nat) (st:Option SetTable.Probe) (tk:Nat),n < f->n < 10*turns t.mask->(st.getD (t.probeStart hs)).dummy=none->t.slot (eH t n (st.getD (t.probeStart hs))).j=.empty->
  wpAny (model prog w) A (setSearchFrom S v hs true f st) Q E {s with toks:=tk}:=by
 refine iW (bY hX hv) λa _ _ e903 _=>?_;subst e903;intro f;induction f with
 | zero=>intro n st tk hf;exact absurd hf (Fy _)
 | succ f ih=>
  intro n st tk hf hn hp he;refine Dz (Fd (s:={s with toks:=tk}) ho rfl T.fits ?_);dsimp only;rw [T.lcg.2.2,if_neg DY];generalize hr:SetTable.probe t _ hs (st.getD (t.probeStart hs))=r;have hr':Ij t (λi=>(es[i]?.map (·.1)).getD 0) hs (10*turns t.mask) (st.getD (t.probeStart hs))=r:=hr;clear hr;have g:=rp T.dum (λi=>(es[i]?.map (·.1)).getD 0) hs n (10*turns t.mask) _ hn hp he;rw [hr'] at g;clear hr' hp he;cases g with
  | free j=>exact DE (hfree j tk)
  | cand j i nx n' h1 h2 h3 h4 h5=>
   dsimp only;have hi:i < es.size:=by
    have:=(EX.mp (xh h1)).1;rw [T.size] at this;exact this
   have hei:es[i]? = some (es[i].1,es[i].2):=D8 hi;obtain ⟨Y,hY,hy⟩:=hes es[i] (by rw [Fu];exact Jq hi);refine iW (bY hY hy) λb _ _ hb _=>?_;refine Cc (λQ' h=>yH hX hv (λy hy=>?_) h) ?_
   · obtain ⟨x,hx,rfl⟩:=DO.mp hy;rw [Fu,Array.mem_filter] at hx;exact hes x (Fu.mpr hx.1)
   rw [hei];dsimp only;have hu10:A.units+aK Y < cLine:=by have:=(eJ hY).2;lia
   refine Dz (D2 (nV (s:={s with toks:=tk}) (ry hY hX) hu10 hy hv ?_));refine Dz (Fd (s:={s with toks:=tk}) ho rfl T.fits ?_);cases hq:aG Y X with
   | true=>
    rw [if_pos (by rfl)];exact DE (hthere es[i] (Fu.mpr (Jq hi)) (by rw [← bg.mp hq];exact hy) tk)
   | false=>
    rw [if_neg (by simp)];have hm:t.sameMemory t.moves t.mask=some true:=by unfold sameMemory;rw [if_pos (by simp)]
    dsimp only;rw [hm];dsimp only;rw [if_pos rfl,h1];dsimp only;rw [hei];dsimp only;rw [hb];have hsame:isSame (F7 b) (F7 b)=pure true:=by unfold isSame;simp
    rw [hsame];refine Dz (DE (Dz (DE ?_)));exact ih n' (some nx) tk (by lia) (by exact DH h3 hn) h4 h5
theorem rz{Q:Bool->DA->Prop}(hX:bD X=true)(hv:ak L s.heap X v)(h:Q false s):wpAny (model prog w) A (hashByValue 8 v) Q E s:=by
 obtain ⟨a,items,n,rfl,ha,o,t,r,e,hr⟩:=bY hX hv;have hT:=da ha;unfold hashByValue;refine Dz (GT hT G0.lookup ?_);dsimp only;refine Dz (Ha ha rfl ?_);refine Dz ?_;rw [← GN,show ((some items).getD #[.ellipsis]).toList=.str o t::r from e,Gv];refine Dz ?_;show wpAny _ _ (pure false >>= _) _ _ _;exact Dz (DE (DE (DE (DE h))))
theorem yI{es:Array (Int×DF)}{ep:Nat}{t:SetTable}{wanted mask:Nat}{Q:Unit->DA->Prop}(ho:s.heap.get? S=some (aU es ep t))(hf:t.fits es.size=true)(hm:sizeAbove wanted - 1=mask)(hl:ez (mask+1)=true)(hn:es.size<=mask)(hz:sizeAbove wanted<=sizeLine)(hz2:es.size < 60)
 (h:∀es' t',es'.toList.Perm es.toList->t'.mask=mask->t'.dummies=#[]->t'.led=t.led->t'.plain=t.plain->t'.place.size=es'.size->Q () {s with heap:=s.heap.update S (Iz es' t')}) :
 wpAny (model prog w) A (setRelay S wanted) Q E s:=by
 unfold setRelay;refine Dz (Fd ho rfl hf ?_);dsimp only;rw [if_neg (E2.mpr hz)];have hs:(es.map (·.1)).size=es.size:=Mg;obtain ⟨t',order,e,h1,h2,h3,h4,h5,h6⟩:=Az (fg:=t.finger) (mv:=t.movedTo mask) (led:=t.led) (pl:=t.plain) (hs:=es.map (·.1)) hl (by rw [hs];exact hn);have er:t.relaid (es.map (·.1)) wanted=some (t',order):=by unfold relaid;rw [hm];exact e
 rw [er];rw [hs] at h5 h6;have hp:(order.filterMap (es[·]?)).toList.Perm es.toList:=by
  rw [Array.toList_filterMap];exact (h5.filterMap _).trans (by rw [Jw])
 have hsz:(order.filterMap (es[·]?)).size=es.size:=by rw [← DT,hp.length_eq,DT]
 show wpAny _ _ ((if (order.filterMap (es[·]?)).size != es.size then (do let _ ← (unsupported "internal:set-table-lost-an-element" : Sem Unit);pure (order.filterMap (es[·]?),t')) else pure (order.filterMap (es[·]?),t')) >>= _) _ _ _;rw [hsz,if_neg (by simp)];refine Dz (DE ?_);exact Ik ho rfl (h _ t' hp h1 h2 h3 h4 (by rw [h6,hsz])) (by rw [hsz,EP];exact D9 (DI hz2 (by decide)))
end
theorem ij{es es':Array (Int×DF)}{ep:Nat}{t t':SetTable}{h:EI}{S:Ep}(ho:h.get? S=some (aU es ep t)):(h.update S (Iz es' t')).get? S=some (aU es' (ep+1) t'):=by
 have:=ED (Iz es' t') ho (by rfl);exact this
theorem gd.grow{t:SetTable}{n:Nat}(h:gd t n)(hn:n+1 < 60){t':SetTable}(hd:t'.dummies=#[])(hs:t'.place.size=n+1)(hm:t'.mask=t.mask) :
 t'.fits (n+1)=true/\(t'.tooFull=false->gd t' (n+1))/\(t'.tooFull=true->∃mask,sizeAbove (grown (n+1)) - 1=mask/\ez (mask+1)=true/\n+1<=mask/\sizeAbove (grown (n+1))<=sizeLine/\∀t'':SetTable,t''.mask=mask->t''.dummies=#[]->t''.place.size=n+1->gd t'' (n+1)):=by
 have hl:=h.lcg;have hfl:t'.fill=n+1:=by unfold Mr;rw [hd,hs];rfl
 have htf:t'.tooFull=decide ((n+1)*5>=t.mask*3):=by unfold tooFull;rw [hfl,hm]
 refine ⟨by unfold Jv;rw [hfl,hs,hm];simp;exact hl.2.1,λe=>⟨hd,hs,?_⟩,λe=>?_⟩
 · rw [htf,decide_eq_false_iff_not] at e;rw [hm];rcases h.mask with ⟨q,_⟩ | ⟨q,_⟩ | ⟨q,_⟩ <;> rw [q] at e ⊢ <;> simp <;> lia
 · rw [htf,decide_eq_true_eq] at e;rcases h.mask with ⟨q,_⟩ | ⟨q,_⟩ | ⟨q,_⟩ <;> rw [q] at e
   · have:n=4:=by lia
     subst this;exact ⟨31,by decide +kernel,zx,by decide,by rw [EP];exact EZ (by decide +kernel),λt'' h1 h2 h3=>⟨h2,h3,.inr (.inl ⟨h1,by decide⟩)⟩⟩
   · have:n=18:=by lia
     subst this;exact ⟨127,by decide +kernel,xd,by decide,by rw [EP];exact EZ (by decide +kernel),λt'' h1 h2 h3=>⟨h2,h3,.inr (.inr ⟨h1,by decide⟩)⟩⟩
   · lia
section
variable {prog:Fc} {w:Fs} {A:Em} {E:DF->DA->Prop} {s:DA} {L:ao} {X:PV} {v:DF} {S:Ep} {es:Array (Int×DF)} {ep:Nat} {t:SetTable}
theorem yJ(hu:A.units+20 < cLine)(ho:s.heap.get? S=some (aU es ep t))(T:gd t es.size)(hn:es.size+1 < 60)(hX:bD X=true)(hv:ak L s.heap X v)(hes:ve w L s.heap es){Q:Bool->DA->Prop}
 (hold:∀e∈es.toList,ak L s.heap X e.2->∀tk,Q false {s with toks:=tk})
 (hnew:∀h' es' ep' t' tk x,Fp S s.heap h'->h'.get? S=some (aU es' ep' t')->gd t' es'.size->t'.led=t.led->t'.plain=false->es'.toList.Perm (es.toList ++ [(x,v)])->Q true {s with heap:=h',toks:=tk}) :
 wpAny (model prog w) A (setAdd S v) Q E s:=by
 refine iW (bY hX hv) λa _ _ e903 _=>?_;subst e903;unfold setAdd;refine D2 (Dz (nU 8 (eJ hX).2 (eJ hX).1 (by lia) hv λtk=>?_));unfold setAddHashed;refine D2 ?_;unfold setAddHashedIn;refine Dz (Fd (s:={s with toks:=tk}) ho rfl T.fits ?_);dsimp only;rw [show byScan (F7 a) es=false from rfl,if_neg DY];obtain ⟨j,hj,he⟩:=xg T.dum (by rw [T.size];exact D9 T.lcg.2.1);refine aN (sx (t:=t) T.lcg.1 (aW w X) hj) λn hn1 hn2=>?_;unfold setSearch;have hN:n < 100000:=by
  have:t.mask<=127:=by rcases T.mask with ⟨e,_⟩ | ⟨e,_⟩ | ⟨e,_⟩ <;> lia
  unfold turns at hn1;lia
 refine Dz (xl (hs:=aW w X) (by lia) ho T hX hv hes (λj tk=>?_) (λe he hx tk=>?_) 100000 n none tk hN hn1 rfl (by
  show t.slot (eH t n (t.probeStart (aW w X))).j=.empty;rw [hn2];exact he))
 · dsimp only;refine Dz (Fd (s:={s with toks:=tk}) ho rfl T.fits ?_);have hd:has t.dummies j=false:=by rw [T.dum];rfl
   have hb:=lL t.place j;have hput:t.put j=({t with place:=insertAt t.place (below t.place j) j},below t.place j):=by
    unfold put;rw [hd];rfl
   dsimp only;rw [hput];dsimp only;have hp1:(insertAt es (below t.place j) (aW w X,F7 a)).toList.Perm (es.toList ++ [(aW w X,F7 a)]):=by
    rw [gc];refine List.perm_middle.trans ?_;rw [Io];exact (Jj _ _).symm
   have hz1:(insertAt es (below t.place j) (aW w X,F7 a)).size=es.size+1:=by rw [← DT,hp1.length_eq];simp
   have hz2:(insertAt t.place (below t.place j) j).size=es.size+1:=by
    rw [← DT,gc,DG,Gn,Lu,List.length_drop,DT,← T.size];lia
   have tail:∀t1:SetTable,t1.dummies=#[]->t1.place.size=es.size+1->t1.mask=t.mask->t1.led=t.led->t1.plain=false->wpAny (model prog w) A (do
    storeSet S (insertAt es (below t.place j) (aW w X,F7 a)) t1
    if (!false && t1.tooFull)=true then do
     setRelay S (grown (es.size+1))
     pure true
    else pure true) Q E {s with toks:=tk}:=by
    intro t1 e1 e2 e3 e4 e5;refine cj (T.grow hn e1 e2 e3) λg1 g2 g3=>?_;refine Dz (Ik (s:={s with toks:=tk}) ho rfl ?_ (by rw [hz1,EP];exact D9 (DI hn (by decide))));have ho1:=ij (es':=insertAt es (below t.place j) (aW w X,F7 a)) (t':=t1) ho;have sb1:=Ej s.heap S (Iz (insertAt es (below t.place j) (aW w X,F7 a)) t1);cases hq:t1.tooFull with
    | false=>
     rw [if_neg (by decide)];exact DE (hnew _ _ _ _ _ _ sb1 ho1 (by rw [hz1];exact g2 hq) e4 e5 hp1)
    | true=>
     rw [if_pos (by decide)];refine De (g3 hq) λmask m1 m2 m3 m4 m5=>?_;refine Dz (yI (s:={s with heap:=s.heap.update S (Iz (insertAt es (below t.place j) (aW w X,F7 a)) t1),toks:=tk}) ho1 (by rw [hz1];exact g1) m1 m2 (by rw [hz1];exact m3) m4 (by exact DC (Ee hz1) hn) λes' t' p1 p2 p3 p4 p5 p6=>DE ?_);have hz3:es'.size=es.size+1:=by rw [← DT,p1.length_eq,DT,hz1]
     exact hnew _ _ _ _ _ _ (sb1.trans (Ej _ S _)) (ij ho1) (by rw [hz3];exact m5 t' p2 p3 (by lia)) (p4.trans e4) (p5.trans e5) (p1.trans hp1)
   cases hpl:t.plain with
   | true=>
    rw [if_pos rfl];refine Dz (rz hX hv ?_);rw [if_neg DY];exact tail _ T.dum hz2 rfl rfl rfl
   | false=>
    rw [if_neg DY];refine Dz (DE ?_);rw [if_pos rfl];exact tail _ T.dum hz2 rfl rfl rfl
 · exact DE (hold e he hx tk)
end
section
variable {prog:Fc} {w:Fs} {A:Em} {E:DF->DA->Prop} {s:DA} {S:Ep} {es:Array (Int×DF)} {ep:Nat} {t:SetTable} {l:Bool} {x:Int} {tk0:Nat}
theorem il{α:Type}{a b:Array α}(h:a.toList.Perm b.toList):a.size=b.size:=by rw [← DT,h.length_eq,DT]
theorem add_int(ho:s.heap.get? S=some (aU es ep t))(hf:t.fits es.size=true)(M:dT l t)(hel:ElemsOf (intKind prog w) es.toList)(hn:es.size+1 < scanBound){Q:Bool->DA->Prop}
 (hold:(∃e∈es.toList,(intKind prog w).is x e.2=true)->∀tk,Q false {s with toks:=tk})
 (hnew:∀h' es' ep' t' tk,Fp S s.heap h'->h'.get? S=some (aU es' ep' t')->t'.fits es'.size=true->dT l t'->es'.toList.Perm (es.toList ++ [((intKind prog w).hash x,.int x tk0)])->Q true {s with heap:=h',toks:=tk}) :
 wpAny (model prog w) A (setAdd S (.int x tk0)) Q E s:=by
 unfold setAdd;refine D2 (Dz ((intKind prog w).pyHash (k:=x) (Mh _ _ _ _) ?_));unfold setAddHashed;refine D2 ?_;unfold setAddHashedIn;refine Dz (Fd (s:={s with toks:=s.toks+1}) ho rfl hf ?_);dsimp only;rw [byScan_of (knd:=intKind prog w) rfl (by lia) hel,if_pos rfl];unfold setAddByScan;refine Dz (Dz (Ft (Dz (wpAny_setScan_of (s:={s with toks:=s.toks+1}) (knd:=intKind prog w) (k:=x) (Mh _ _ _ _) ho rfl hf hel ?_))));cases hr:List.findIdx? (λe=>(intKind prog w).is x e.2) es.toList with
 | some j=>
  obtain ⟨hj,hpj,_⟩:=HU.mp hr;exact DE (DE (hold ⟨_,E9 hj,hpj⟩ _))
 | none=>
  have hgw:∀(b:Bool) {s₁:DA} {Q':Unit->DA->Prop},Q' () s₁->wpAny (model prog w) A (match b with | true=>rule "set.scan.the-table-gave-way" | false=>pure ()) Q' E s₁:=
   λb s₁ Q' hq=>by cases b <;> first | exact DE hq | exact Ft hq
  have hperm:=layNew_perm t es ((intKind prog w).hash x) (.int x tk0);have hfits:=layNew_fits t es ((intKind prog w).hash x) (.int x tk0);have hm:=M.layNew es ((intKind prog w).hash x) (.int x tk0);generalize hL:layNew t es ((intKind prog w).hash x) (.int x tk0)=L at hperm hfits hm ⊢;obtain ⟨es1,t1,wd,gave⟩:=L;dsimp only at hperm hfits hm ⊢;have hz:=il hperm;rw [LQ] at hz;rw [Fo] at hperm;have hsl:es1.size<=sizeLine:=by rw [hz];exact fits_of_scanBound hn
  have tail:∀t2:SetTable,t2.fits es1.size=true->dT l t2->wpAny (model prog w) A (do
   storeSet S es1 t2
   if (!wd && t2.tooFull)=true then do
    (match (relayAll t2 es1 (grown es1.size)).2.2 with | true=>rule "set.scan.the-table-gave-way" | false=>pure ())
    storeSet S (relayAll t2 es1 (grown es1.size)).1 (relayAll t2 es1 (grown es1.size)).2.1
    pure (some true)
   else pure (some true)) (λr s'=>wpAny (model prog w) A (match r with | some added=>pure added | none=>setAddHashedIn S (.int x tk0) ((intKind prog w).hash x) 99999) Q E s') E {s with toks:=s.toks+1}:=by
   intro t2 f2 M2;refine Dz (Ik (s:={s with toks:=s.toks+1}) ho rfl ?_ hsl);have ho1:=ij (es':=es1) (t':=t2) ho;have sb1:=Ej s.heap S (Iz es1 t2);split
   · have hp:=relayAll_perm t2 es1 (grown es1.size);have hfr:=relayAll_fits t2 es1 (grown es1.size);have hm2:=M2.relayAll es1 (grown es1.size);refine Dz (hgw _ ?_);refine Dz (Ik (s:={s with heap:=s.heap.update S (Iz es1 t2),toks:=s.toks+1}) ho1 rfl ?_ (by rw [il hp];exact hsl));exact DE (DE (hnew _ _ _ _ _ (sb1.trans (Ej _ S _)) (ij ho1) hfr hm2 (hp.trans hperm)))
   · exact DE (DE (hnew _ _ _ _ _ sb1 ho1 f2 M2 hperm))
  refine Dz (hgw _ ?_);split
  · rename_i hpl;refine Dz ?_;rw [hashByValue_scannable 8 rfl];refine DE ?_;exact tail t1 hfits hm
  · refine Dz (DE ?_);exact tail t1 hfits hm
end
theorem ag.split{L:ao}{h:EI}{m:List PV}{v:DF}{r:List DF}(e:ag L h m (v::r)):∃x m',m=x::m'/\ak L h x v/\ag L h m' r:=by
 cases m with
 | nil=>exact (Gp _ _ e).elim
 | cons x m=>exact ⟨x,m,rfl,e.two⟩
theorem ag.perm{L:ao}{h:EI}{vs vs':List DF}(p:vs.Perm vs'):∀{m:List PV},ag L h m vs->∃m',ag L h m' vs'/\m'.Perm m:=by
 induction p with
 | nil=>intro m e;exact ⟨m,e,.refl _⟩
 | cons v p ih=>
  intro m e;refine eB e.split λx m e902 a b=>?_;subst e902;refine aN (ih b) λm' g1 g2=>?_;exact ⟨x::m',ag.cons a g1,g2.cons x⟩
 | swap u v r=>
  intro m e;refine eB e.split λx m e902 a b=>?_;subst e902;refine eB b.split λy m e902 a' b'=>?_;subst e902;exact ⟨y::x::m,ag.cons a' (ag.cons a b'),.swap ..⟩
 | trans p q ih1 ih2=>
  intro m e;refine aN (ih1 e) λm1 g1 g2=>?_;refine aN (ih2 g1) λm2 g3 g4=>?_;exact ⟨m2,g3,g4.trans g2⟩
theorem ag.mem{L:ao}{h:EI}:∀{m:List PV} {vs:List DF},ag L h m vs->∀v∈vs,∃x∈m,ak L h x v
 | [],vs,e,v,hv=>e.nilE (m:=λvs=>v∈vs->_) (λh=>(DX h).elim) hv
 | x::m,vs,e,v,hv=>by
  refine eB e λu r e902 a b=>?_;subst e902;rcases D5.mp hv with rfl | hv
  · exact ⟨x,EJ ..,a⟩
  · refine aN (ag.mem b v hv) λy hy hr=>?_;exact ⟨y,E3 _ hy,hr⟩
noncomputable def nO(kd:Bool)(X:PV):Prop:=if kd=true then ∃i,X=.int i else bD X=true
inductive cT(prog:Fc)(w:Fs)(kd l:Bool)(L:ao)(h:EI)(S:Ep)(m:List PV):Prop
 | mk:∀es ep t,h.get? S=some (aU es ep t)->ag L h m (es.toList.map (·.2))->(∀x∈m,nO kd x)->(if kd=true then ElemsOf (intKind prog w) es.toList/\t.fits es.size=true/\dT l t else gd t es.size/\t.led=l/\(0 < es.size->t.plain=false))->cT prog w kd l L h S m
section
variable {prog:Fc} {w:Fs} {A:Em} {E:DF->DA->Prop} {s:DA} {L:ao} {S:Ep} {kd l:Bool} {m:List PV} {X:PV} {v:DF}
theorem cT.there{h:EI}(H:cT prog w kd l L h S m):∀o,h.get? S=some o->o.cls=.type "set":=λo e=>by
 obtain ⟨es,ep,t,ho,_⟩:=H;rw [ho] at e;cases e;rfl
theorem cT.vm{h':EI}(H:cT prog w kd l L s.heap S m)(hs:Fp S s.heap h'){tk:Nat}:VM s {s with heap:=h',toks:=tk} L L:=
 VM.step (B:=λb=>b=S) (λb o hb e=>(hs.2 b hb).trans e) λb o hb e q=>by subst hb;rw [H.there o e] at q;simp at q
theorem ak.int_eq{h:EI}{i j:Int}{t:Tok}(e:ak L h (.int i) (.int j t)):i=j:=Exists.elim e λ_ q=>by injection q with q;exact q.symm
theorem Cd(hu:A.units+20 < cLine)(H:cT prog w kd l L s.heap S m)(hm:m.length+1 < 60)(hX:nO kd X)(hv:ak L s.heap X v){Q:Bool->DA->Prop}
 (h:∀b h' tk m',Fp S s.heap h'->cT prog w kd l L h' S m'->(m'=m/\X∈m\/m'.Perm (m ++ [X]))->Q b {s with heap:=h',toks:=tk}) :
 wpAny (model prog w) A (setAdd S v) Q E s:=by
 obtain ⟨es,ep,t,ho,hr,hg,hk⟩:=id H;have hz:es.size=m.length:=by have:=hr.length;rw [DD,DT] at this;exact this
 have grown:∀{h':EI} {es':Array (Int×DF)} {x:Int} {tk:Nat},Fp S s.heap h'->es'.toList.Perm (es.toList ++ [(x,v)])->∃m',ag L h' m' (es'.toList.map (·.2))/\m'.Perm (m ++ [X]):=by
  intro h' es' x tk hs hp;have V:=H.vm (tk:=tk) hs;have h1:=(hr.mono V).append (ag.cons (hv.mono V) ag.nil);have h2:=(hp.map (·.2)).symm;rw [D4] at h2;exact ag.perm h2 h1
 cases kd with
 | true=>
  refine cj hk λhel hf M=>?_;obtain ⟨i,rfl⟩:=hX;have hvi:=hv;obtain ⟨tk0,rfl⟩:=hvi;refine add_int ho hf M hel (by rw [hz];unfold scanBound;exact DI hm (by decide)) (λ⟨e,he,hi⟩ tk=>?_) λh' es' ep' t' tk hs ho' hf' M' hp=>?_
  · refine h _ s.heap tk m (Lj _ _) H (.inl ⟨rfl,?_⟩);refine aN (hr.mem e.2 (DO.mpr ⟨e,he,rfl⟩)) λx hx hxe=>?_;obtain ⟨j,rfl⟩:=hg x hx;have hi:Ly i e.2=true:=hi;obtain ⟨t2,e2⟩:=Lh hi;rw [e2] at hxe;rw [hxe.int_eq] at hx;exact hx
  · refine aN (grown (tk:=tk) hs hp) λm' g1 g2=>?_;refine h _ h' tk m' hs ⟨es',ep',t',ho',g1,λx hx=>?_,(hel.push (Mh _ _ _ _) rfl).perm hp,hf',M'⟩ (.inr g2);rcases Eb.mp (g2.mem_iff.mp hx) with q | q
    · exact hg x q
    · rw [DS.mp q];exact ⟨i,rfl⟩
 | false=>
  refine cj hk λT hl hpl=>?_;have hes:ve w L s.heap es:=λe he=>by
   refine aN (hr.mem e.2 (DO.mpr ⟨e,he,rfl⟩)) λx hx hxe=>?_;exact ⟨x,hg x hx,hxe⟩
  refine yJ hu ho T (by lia) hX hv hes (λe he hxe tk=>?_) λh' es' ep' t' tk x hs ho' T' hl' hp' hp=>?_
  · refine h _ s.heap tk m (Lj _ _) H (.inl ⟨rfl,?_⟩);refine aN (hr.mem e.2 (DO.mpr ⟨e,he,rfl⟩)) λy hy hye=>?_;rw [ak.inj (ry hX (hg y hy)) hxe hye];exact hy
  · refine aN (grown (tk:=tk) hs hp) λm' g1 g2=>?_;refine h _ h' tk m' hs ⟨es',ep',t',ho',g1,λx hx=>?_,T',hl'.trans hl,λ_=>hp'⟩ (.inr g2);rcases Eb.mp (g2.mem_iff.mp hx) with q | q
    · exact hg x q
    · rw [DS.mp q];exact hX
end
abbrev cq(w:Fs):Bool:=!(w.params.followText "set-order")
section
variable {prog:Fc} {w:Fs} {A:Em} {E:DF->DA->Prop} {s:DA} {L:ao} {kd:Bool}
theorem cT.mono{s s':DA}{l:Bool}{S:Ep}{m:List PV}(H:cT prog w kd l L s.heap S m)(V:VM s s' L L)(hk:∀o,s.heap.get? S=some o->s'.heap.get? S=some o):cT prog w kd l L s'.heap S m:=by
 obtain ⟨es,ep,t,ho,hr,r,r2⟩:=H;exact ⟨es,ep,t,hk _ ho,hr.mono V,r,r2⟩
theorem AA(a:DF){Q₁:DF->DA->Prop}(h:Q₁ (.ref s.heap.objs.size) {s with heap:=s.heap.push (aU #[] 0 (.fresh 0 0 (cq w)))}) :
 codeAny (model prog w) A (.call (.builtin "set.__new__") ⟨[.type "set",a],[]⟩) (wants Q₁ E) s:=by
 refine IQ ?_;show wpAny _ A.in1 (do checkBuiltinCall "set.__new__" ⟨[.type "set",a],[]⟩;again (.builtin "set.__new__" ⟨[.type "set",a],[]⟩)) _ _ s;refine Dz (MW (PySem.F.newCall_set_1 a) (DE ⟨GX J9 _,FW PySem.F.entry_set_new ?_⟩));rw [Fx J9 _];unfold FO.«set.__new__» Builtin.Frozenset.newClass;have hsub:=sub_set_self;obtain ⟨hp,g,d,tk,os⟩:=s
 wp_walk
 refine GK (DE ?_);simp only [newObj];refine Dz (wpAny_alloc (DE ?_));exact DE h
theorem yK{s₀:DA}{a I S:Ep}{items:Array DF}{lst:List PV}(hh:A.handled=none)(hu:A.units+30 < cLine)(hl:s₀.heap.IsList a items)(hlr:ag L s₀.heap lst items.toList)(h60:lst.length < 60)(hg:∀x∈lst,nO kd x)
 (hS:s₀.heap.objs.size<=S) (hI:s₀.heap.objs.size<=I) (hSI:S≠I) {R:Iq->DA->Prop}
 (hR:∀s' m,(∀b o,s₀.heap.get? b=some o->s'.heap.get? b=some o)->s'.gens=s₀.gens->s'.drawn=s₀.drawn->s'.os=s₀.os->cT prog w kd (cq w) L s'.heap S m->(∀x,x∈m↔x∈lst)->m.length<=lst.length->R (.ok (.ret .none)) s') :
 ∀(k i:Nat) (s:DA) (m:List PV),lst.length - i=k->i<=lst.length->(∀b o,s₀.heap.get? b=some o->s.heap.get? b=some o)->s.gens=s₀.gens->s.drawn=s₀.drawn->s.os=s₀.os->s.heap.IsListIter I a i->cT prog w kd (cq w) L s.heap S m->
  (∀x,x∈m↔x∈lst.take i)->m.length<=i->codeAny (model prog w) A (.builtin "set.update.loop" ⟨[.ref S,.ref I],[]⟩) R s:=by
 have hz:items.size=lst.length:=by rw [← hlr.length,DT]
 refine aZ hl λol hol hoc hod=>?_;have hold:∀{b:Ep} {o:Obj},s₀.heap.get? b=some o->b≠S/\b≠I:=λe=>⟨D1 (DI (Ec e) hS),D1 (DI (Ec e) hI)⟩;intro k;induction k with
 | zero=>
  intro i s m hk hi hkeep e1 e2 e3 hit H hm hml;have:i=lst.length:=by lia
  subst this;refine FW JH ?_;rw [Fx HT _];show wpAny _ A.in1 (pyNext (.ref I) >>= _) _ _ s;refine Dz (Im hh hit ⟨ol,hkeep _ _ hol,hoc,hod⟩ (by rw [FT];exact Ee hz) λh' hs=>?_);have hk':∀b o,¬b=I->s.heap.get? b=some o->h'.get? b=some o:=λb o hb e=>hs b o hb e;refine DE (hR {s with heap:=h'} m (λb o e=>hk' b o (hold e).2 (hkeep b o e)) e1 e2 e3 (H.mono (VM.step (B:=λb=>b=I) hk' λb o hb e q=>?_) λo e=>hk' S o hSI e) (λx=>by rw [hm,List.take_length]) hml);subst hb;refine aZ hit λo' ho' hcl _=>?_;rw [e] at ho';cases ho';rw [hcl] at q;simp at q
 | succ k ih=>
  intro i s m hk hi hkeep e1 e2 e3 hit H hm hml;have hlt:i < lst.length:=by lia
  refine FW JH ?_;rw [Fx HT _];show wpAny _ A.in1 (pyNext (.ref I) >>= _) _ _ s;refine aN (hlr.get i _ (DW hlt)) λv hv hxv=>?_;refine Dz (Ib hit ⟨ol,hkeep _ _ hol,hoc,hod⟩ (by rw [← Eu];exact hv) λh' hit' hs=>?_);have hk':∀b o,¬b=I->s.heap.get? b=some o->h'.get? b=some o:=λb o hb e=>(hs.2 b hb).trans e;have V1:VM s {s with heap:=h'} L L:=VM.step (B:=λb=>b=I) hk' λb o hb e q=>by
   subst hb;refine aZ hit λo' ho' hcl _=>?_;rw [e] at ho';cases ho';rw [hcl] at q;simp at q
  have V0:VM s₀ s L L:=VM.step (B:=λ_=>False) (λb o _ e=>hkeep b o e) λ_ _ q=>q.elim;show wpAny _ A.in1 (holding [v] (setAdd S v) >>= _) _ _ _;refine Dz (D2 (Cd (s:={s with heap:=h'}) (by show A.units+1+20 < cLine;lia) (H.mono V1 λo e=>hk' S o hSI e) (by lia) (hg _ (E9 hlt)) ((hxv.mono V0).mono V1) λb h₂ tk m' hs2 H₂ hm'=>?_));refine DE ⟨GX HT _,ih (i+1) {s with heap:=h₂,toks:=tk} m' (by lia) hlt (λb o e=>?_) e1 e2 e3 ?_ H₂ (λx=>?_) ?_⟩
  · exact (hs2.2 b (hold e).1).trans (hk' b o (hold e).2 (hkeep b o e))
  · refine aN hit' λo' ho' r=>?_;exact ⟨o',(hs2.2 I hSI.symm).trans ho',r⟩
  · have ht:lst.take (i+1)=lst.take i ++ [lst[i]]:=by rw [Ht]
    rw [ht,Eb,DS,← hm];rcases hm' with ⟨rfl,hin⟩ | hp
    · exact ⟨.inl,λq=>q.elim id λe=>e▸hin⟩
    · rw [hp.mem_iff,Eb,DS]
  · rcases hm' with ⟨rfl,_⟩ | hp
    · exact DM hml (Ed _ _)
    · rw [hp.length_eq,DG,List.length_singleton];lia
end
section
variable {prog:Fc} {w:Fs} {A:Em} {E:DF->DA->Prop} {s:DA} {L:ao} {kd:Bool}
theorem cT.fresh{h:EI}{S:Ep}(ho:h.get? S=some (aU #[] 0 (.fresh 0 0 (cq w)))):cT prog w kd (cq w) L h S []:=by
 refine ⟨_,_,_,ho,ag.nil,λx hx=>(DX hx).elim,?_⟩;cases kd with
 | true=>
  rw [if_pos rfl];exact ⟨λe he=>by simp at he,by rfl,rfl,λ_=>by show List.Pairwise _ [];exact .nil⟩
 | false=>
  rw [if_neg DY];exact ⟨⟨rfl,rfl,.inl ⟨rfl,Eo _⟩⟩,rfl,λh=>absurd h (Fi 0)⟩
theorem yL{a:Ep}{items:Array DF}{lst:List PV}{Q:DF->DA->Prop}(hh:A.handled=none)(hu:A.units+40 < cLine)(hl:s.heap.IsList a items)(hlr:ag L s.heap lst items.toList)(h60:lst.length < 60)(hg:∀x∈lst,nO kd x)
 (h:∀s' m,(∀b o,s.heap.get? b=some o->s'.heap.get? b=some o)->s'.gens=s.gens->s'.os=s.os->cT prog w kd (cq w) L s'.heap s.heap.objs.size m->(∀x,x∈m↔x∈lst)->m.length<=lst.length->Q (.ref s.heap.objs.size) s') :
 wpAny (model prog w) A (call (.type "set") [.ref a]) Q E s:=by
 obtain ⟨c,tl,hmro⟩:=GS.mro;have hmade:=GS.made;have hsub:=GS.sub;refine KH (IQ ?_);show wpAny _ _ (callAny (.type "set") _) _ _ _;refine DE ⟨HF _ (by decide +kernel),FW F.entry_type_call ?_⟩;rw [Around.under_plain (weight_type_call_type "set" [.ref a] []) rfl];have h1:=GS.notType;have h2:=GS.canCreate;have hct:=PySem.F.typeCall_set_1 (.ref a);repeat (any_goals (first | assumption | wp_step))
 refine Hm (AA (.ref a) (E:=E) (Q₁:=λobj s₁=>obj=.ref s.heap.objs.size/\s₁={s with heap:=s.heap.push (aU #[] 0 (.fresh 0 0 (cq w)))}) ⟨rfl,rfl⟩) λr s₁ hr=>?_;cases r with
 | error e=>exact hr
 | ok fl=>
  cases fl with
  | ret obj=>
   obtain ⟨rfl,rfl⟩:=hr;have hS:(s.heap.push (aU #[] 0 (.fresh 0 0 (cq w)))).get? s.heap.objs.size=some (aU #[] 0 (.fresh 0 0 (cq w))):=DZ _ rfl;have hT:Shared.TypeIs {s with heap:=s.heap.push (aU #[] 0 (.fresh 0 0 (cq w)))} (.ref s.heap.objs.size) "set":=⟨_,hS,rfl⟩;have hli:=GS.init.lookup;have hbi:=GS.init.bind (.ref s.heap.objs.size);repeat (any_goals (first | assumption | wp_step))
   refine Hm (Gw (R:=wants (λr s₂=>r=.none/\Q (.ref s.heap.objs.size) s₂) E) GS.init.plain F.entry_set_init (check_set_init_1 hT ?_)) λr₂ s₂ hr₂=>?_
   · obtain ⟨ol,hol,hcl,nl,hdl⟩:=id hl;obtain ⟨ocls,odict,odata,oslots⟩:=ol;simp only at hcl hdl;subst hcl;subst hdl;have hol':(s.heap.push (aU #[] 0 (.fresh 0 0 (cq w)))).get? a=some {cls:=.type "list",dict:=odict,data:=.seq items nl,slots:=oslots}:=DJ _ hol;have hsls:=PySem.F.sub_list_set;have hslf:=PySem.F.sub_list_frozenset;have hne:(HG "list" == HG "dict")=false:=by decide
     have hl1:(s.heap.push (aU #[] 0 (.fresh 0 0 (cq w)))).IsList a items:=⟨_,hol',rfl,nl,rfl⟩;unfold FO.«set.__init__» noKeywords Builtin.Frozenset.updateFrom;generalize hPI:pyIter=PI
     wp_walk
     subst hPI;refine G6 hl1 ?_;refine Dz (Mi ?_);have hkeep:∀b o,s.heap.get? b=some o->((s.heap.push (aU #[] 0 (.fresh 0 0 (cq w)))).push {cls:=.type "list_iterator",data:=.fields #[.ref a,.int 0 0]}).get? b=some o:=λb o e=>DJ _ (DJ _ e);refine yK (s₀:=s) (a:=a) (by simp [hh]) (by show A.units+1+1+30 < cLine;lia) hl hlr h60 hg (DQ _) (by rw [Mj];exact E6 _) (by rw [Mj];exact D1 (D6 _)) (λs' m k1 k2 _ k3 H hm hml=>?_) (lst.length - 0) 0 _ [] rfl (Eo _) hkeep rfl rfl rfl ⟨_,DZ _ rfl,rfl,rfl⟩ (cT.fresh (DJ _ hS)) (λx=>by simp) (DQ _);refine DE ?_;show wpAny _ _ (ret Gz) _ _ _;exact DE ⟨rfl,h s' m k1 k2 k3 H hm hml⟩
   · cases r₂ with
     | error e=>exact hr₂
     | ok fl2=>
      cases fl2 with
      | ret r=>
       obtain ⟨rfl,hq⟩:=hr₂;repeat (any_goals (first | assumption | wp_step))
      | _=>exact hr₂.elim
  | _=>exact hr.elim
end
theorem jg{α:Type}:∀{l:List α} {i:Nat} (h:i < l.length),(l[i]::l.eraseIdx i).Perm l
 | a::l,0,_=>.refl _
 | a::l,i+1,h=>(List.Perm.swap _ _ _).trans ((jg (l:=l) (i:=i) (JO h)).cons a)
theorem xm{α:Type}{f:Nat->Nat}{n k:Nat}{l:List α}{out:Array α}{x:α}(h:l[f k % l.length]? = some x):JP f (n+1) k l out=JP f n (k+1) (l.eraseIdx (f k % l.length)) (out.push x):=by
 show (match l[f k % l.length]? with | some x=>JP f n (k+1) (l.eraseIdx (f k % l.length)) (out.push x) | none=>out)=_;rw [h]
theorem oS{α:Type}(f:Nat->Nat):∀(n k:Nat) (l:List α) (out:Array α),l.length=n->(JP f n k l out).toList.Perm (out.toList ++ l)
 | 0,k,l,out,h=>by
  have:l=[]:=Fe h;subst this;show out.toList.Perm (out.toList ++ []);rw [Eg]
 | n+1,k,l,out,h=>by
  have hlt:f k % l.length < l.length:=Iy _ (by lia);rw [xm (DW hlt)];refine (oS f n (k+1) _ _ (by rw [Jk hlt];lia)).trans ?_;rw [Fo,Ey];exact (jg hlt).append_left _
theorem fA{α:Type}(f:Nat->Nat)(xs:Array α):(pickOrder f xs).toList.Perm xs.toList:=by
 have:=oS f xs.size 0 xs.toList #[] (by simp)
 simpa [pickOrder] using this
section
variable {M:HK} {A:Em} {E:DF->DA->Prop} {s:DA}
theorem rA{n:Nat}{src:Source}{Q:Nat->DA->Prop}(hn:n≠0)(h:∀i < n,∀d,Q i {s with drawn:=d}):wpAny M A (choose src n) Q E s:=λΓ p hΓ=>by
 unfold choose;rw [Sem.wp_choose];exact ⟨hn,h _ (Iy _ (Nat.pos_of_ne_zero hn)) _⟩
theorem tJ{α:Type}:∀(n:Nat) (l:List α) (s:DA) (Q:List α->DA->Prop),l.length=n->(∀r d,r.Perm l->Q r {s with drawn:=d})->wpAny M A (drawOrder n l) Q E s
 | 0,l,s,Q,h,hq=>by
  have:l=[]:=Fe h;subst this;delta drawOrder;exact DE (hq [] s.drawn (.refl _))
 | n+1,[],s,Q,h,hq=>by simp at h
 | n+1,a::l,s,Q,h,hq=>by
  refine Dz (rA (by simp) λi hi d=>?_);rw [DW hi];refine Dz (tJ n _ _ _ (by rw [Jk hi,h];rfl) λr d' hr=>DE (hq _ d' ?_));exact (hr.cons _).trans (jg hi)
end
theorem mQ:entryFor table "set.__iter__" = some FO.«frozenset.__iter__»:=
 Mk (id':="frozenset.__iter__") (by kernel_rfl) (by first | rfl | decide +kernel) (by decide +kernel) (by kernel_rfl)
theorem dI:Slot "set_iterator" "__next__" "set_iterator.__next__":=
 .of (owner:="set_iterator") (n:="__next__") (by rw [Fz,EN];kernel_rfl) (by decide +kernel) (by decide +kernel) (by decide +kernel)
  (by first | exact .inl (by decide +kernel) | exact .inr (by decide +kernel)) (by rw [GJ];kernel_rfl)
theorem j0:Slot "set_iterator" "__iter__" "set_iterator.__iter__":=
 .of (owner:="set_iterator") (n:="__iter__") (by rw [Fz,EN];kernel_rfl) (by decide +kernel) (by decide +kernel) (by decide +kernel)
  (by first | exact .inl (by decide +kernel) | exact .inr (by decide +kernel)) (by rw [GJ];kernel_rfl)
theorem pC:entryFor table "set_iterator.__next__" = some FO.«set_iterator.__next__»:=JG (by kernel_rfl)
theorem rB(x:DF):argsOk "set_iterator.__next__" ⟨[x],[]⟩:=by unfold argsOk;kernel_rfl
set_option backward.match.sparseCases true
noncomputable def cH(first:DF)(i:Nat)(S:Ep)(n ep:Nat):Obj:={cls:=.type "set_iterator",data:=.fields #[first,.int i 0,.ref S,.int n 0,.int ep 0]}
section
variable {prog:Fc} {w:Fs} {A:Em} {E:DF->DA->Prop} {s:DA} {I S:Ep} {es:Array (Int×DF)} {ep i:Nat} {t:SetTable} {Q:Option DF->DA->Prop} {first:DF}
theorem lg{h₀:EI}(hh:A.handled=none)(hx:∀h',Jp I h₀ h'->Q none {s with heap:=h'})(hs:Jp I h₀ s.heap) :
 wpAny (model prog w) A.in1 (newExc (.type "StopIteration") [] >>= λe=>(raiseNew e:Sem Kk)) (λfin s'=>∃v,fin=.done (.ret v)/\Q (some v) s') (λe s'=>wpAny (model prog w) A (isInstance e (.type "StopIteration")) (λb s''=>b=true/\Q none s'') E s') s:=by
 refine Dz ?_;simp only [newExc,newTuple];refine Dz (FH ?_ (by size_fits));refine Dz (m:=firstArgMember _ _) (MW (a:=Gz) (by first | rfl | (simp only [firstArgMember];rfl)) ?_);refine FH ?_ (by size_fits);delta raiseNew;refine Dz (wpAny_handled ?_);rw [show A.in1.handled=none from hh];refine Dz (DE (wpAny_throw ?_));refine Hj (T:="StopIteration") (b:=true) ⟨_,DZ _ rfl,rfl⟩ isSubtype_stop ⟨rfl,?_⟩;exact hx _ ((hs.push _).push _)
theorem kB(hI:s.heap.get? I=some (cH first i S es.size ep))(hS:s.heap.get? S=some (aU es ep t))(hf:t.fits es.size=true)
 (h:wpAny (model prog w) A.in1 (if let .int slot _:=first then do
  match ← setNext S slot.toNat (Iv (i:Int)) (Iv (ep:Int)) with
  | some (x,next)=>do
   setField (.ref I) 0 (rawInt next)
   setField (.ref I) 1 (rawInt ((i:Int)+1))
   ret x
  | none=>do setField (.ref I) 2 .none;raiseNew (← newExc (.type "StopIteration") [])
  else do
   let some places ← seqItems? first | unsupported "internal:set_iterator"
   match places[(Iv (i:Int))]? with
   | some (.int place _)=>do
    let x ← setNextDrawn S place.toNat (Iv (ep:Int))
    setField (.ref I) 1 (rawInt ((i:Int)+1))
    ret x
   | some _=>unsupported "internal:set_iterator"
   | none=>do setField (.ref I) 0 (rawInt 0);setField (.ref I) 2 .none;raiseNew (← newExc (.type "StopIteration") []))
  (λfin s'=>∃v,fin=.done (.ret v)/\Q (some v) s') (λe s'=>wpAny (model prog w) A (isInstance e (.type "StopIteration")) (λb s''=>b=true/\Q none s'') E s') s) :
 wpAny (model prog w) A (pyNext (.ref I)) Q E s:=by
 have hT:s.TypeIs (.ref I) "set_iterator":=⟨_,hI,rfl⟩;unfold pyNext;refine Dz (Mq (Gc (name:=Dy "__next__") hT dI
  (EH dI hT pC ?_ (rB _))))
 unfold FO.«set_iterator.__next__»;refine Dz (DE ?_);refine Dz (wpAny_fieldsOf hI rfl ?_);show wpAny _ _ (setEntries S >>= _) _ _ s;refine Dz (Kt hS rfl hf ?_);rw [if_neg (by simp)];refine DU h (λfin s' h'=>?_) λe s' h'=>Dz (DU h' (λb s'' h''=>?_) λ_ _ x=>x)
 · obtain ⟨v,e,q⟩:=h';exact ⟨v,e,DE q⟩
 · obtain ⟨rfl,q⟩:=h'';exact DE q
theorem xn{slot nx:Nat}{x:DF}(hI:s.heap.get? I=some (cH (.int slot 0) i S es.size ep))(hS:s.heap.get? S=some (aU es ep t))(hf:t.fits es.size=true)
 (hsn:∀Q':Option (DF×Nat)->DA->Prop,Q' (some (x,nx)) s->wpAny (model prog w) A.in1 (setNext S slot i ep) Q' (λe s'=>wpAny (model prog w) A (isInstance e (.type "StopIteration")) (λb s''=>b=true/\Q none s'') E s') s)
 (hQ:∀h',Fp I s.heap h'->h'.get? I=some (cH (.int nx 0) (i+1) S es.size ep)->Q (some x) {s with heap:=h'}):wpAny (model prog w) A (pyNext (.ref I)) Q E s:=by
 refine kB hI hS hf ?_;dsimp only;rw [Fq,Fq,Fq];refine Dz (hsn _ ?_);refine Dz (Hh hI rfl (by simp) ?_);have h1:(s.heap.update I (Jx (·.setIfInBounds 0 (rawInt (nx:Int))))).get? I=some (cH (.int nx 0) i S es.size ep):=ED _ hI (by rfl);refine Dz (Hh h1 rfl (by simp) ?_);have h2:((s.heap.update I (Jx (·.setIfInBounds 0 (rawInt (nx:Int))))).update I (Jx (·.setIfInBounds 1 (rawInt ((i:Int)+1))))).get? I=some (cH (.int nx 0) (i+1) S es.size ep):=ED _ h1 (by rfl);exact DE ⟨x,rfl,hQ _ ((Ej ..).trans (Ej ..)) h2⟩
theorem mR{slot:Nat}(hh:A.handled=none)(hI:s.heap.get? I=some (cH (.int slot 0) i S es.size ep))(hS:s.heap.get? S=some (aU es ep t))(hf:t.fits es.size=true)
 (hsn:∀Q':Option (DF×Nat)->DA->Prop,Q' none s->wpAny (model prog w) A.in1 (setNext S slot i ep) Q' (λe s'=>wpAny (model prog w) A (isInstance e (.type "StopIteration")) (λb s''=>b=true/\Q none s'') E s') s)
 (hQ:∀h',Jp I s.heap h'->Q none {s with heap:=h'}):wpAny (model prog w) A (pyNext (.ref I)) Q E s:=by
 refine kB hI hS hf ?_;dsimp only;rw [Fq,Fq,Fq];refine Dz (hsn _ ?_);refine Dz (Hh hI rfl (by simp) ?_);exact lg (s:={s with heap:=_}) hh hQ (Ej ..).extBut
theorem Ce{T:Ep}{places:Array DF}{k p:Nat}{tp:Tok}(hI:s.heap.get? I=some (cH (.ref T) i S es.size ep))(hS:s.heap.get? S=some (aU es ep t))(hf:t.fits es.size=true)(hT:s.heap.get? T=some ⟨.type "tuple",none,.seq places k,#[]⟩)
 (hp:places[i]? = some (.int (p:Int) tp)) (hx:p < es.size) (hQ:∀h',Fp I s.heap h'->h'.get? I=some (cH (.ref T) (i+1) S es.size ep)->Q (some es[p].2) {s with heap:=h'}):wpAny (model prog w) A (pyNext (.ref I)) Q E s:=by
 refine kB hI hS hf ?_;refine Dz (Ha hT rfl ?_);dsimp only;rw [Fq,hp];unfold setNextDrawn;refine Dz (Dz (Fd hS rfl hf ?_));dsimp only;rw [Fq,Fq,if_neg (by simp),D8 hx];refine DE ?_;refine Dz (Hh hI rfl (by simp) ?_);exact DE ⟨_,rfl,hQ _ (Ej ..) (ED _ hI (by rfl))⟩
theorem vf{T:Ep}{places:Array DF}{k:Nat}(hh:A.handled=none)(hI:s.heap.get? I=some (cH (.ref T) i S es.size ep))(hS:s.heap.get? S=some (aU es ep t))(hf:t.fits es.size=true)(hT:s.heap.get? T=some ⟨.type "tuple",none,.seq places k,#[]⟩)
 (hp:places[i]? = none) (hQ:∀h',Jp I s.heap h'->Q none {s with heap:=h'}):wpAny (model prog w) A (pyNext (.ref I)) Q E s:=by
 refine kB hI hS hf ?_;refine Dz (Ha hT rfl ?_);dsimp only;rw [Fq,hp];refine Dz (Hh hI rfl (by simp) ?_);have h1:(s.heap.update I (Jx (·.setIfInBounds 0 (rawInt 0)))).get? I=some (cH (.int 0 0) i S es.size ep):=ED _ hI (by rfl);refine Dz (Hh h1 rfl (by simp) ?_);exact lg (s:={s with heap:=_}) hh hQ ((Ej ..).trans (Ej ..)).extBut
end
set_option backward.match.sparseCases false
set_option backward.match.sparseCases true
theorem xo{α β:Type}{f:α->Option β}{g:α->β}:∀{l:List α},(∀j∈l,f j=some (g j))->l.filterMap f=l.map g
 | [],_=>rfl
 | a::l,h=>by rw [Gh,h a (EJ ..),E1,xo λj hj=>h j (E3 _ hj)]
theorem lM{xs:Array Nat}(h:xs.size<=1):cO xs:=by
 unfold cO
 match q:xs.toList with
 | []=>exact .nil
 | [_]=>exact Fb _ _
 | _::_::_=>have:=congrArg Gl q;simp at this;omega
section
variable {prog:Fc} {w:Fs} {A:Em} {E:DF->DA->Prop} {s:DA} {I S:Ep} {es:Array (Int×DF)} {ep:Nat} {t:SetTable}
theorem oT{slot i:Nat}{Q:Option (DF×Nat)->DA->Prop}(ho:s.heap.get? S=some (aU es ep t))(hf:t.fits es.size=true)(hb:w.params.followText "set-order" = true)
 (h:Q (((pickOrder (w.params.setOrder S ep) es)[i]?).map λe=>(e.2,slot)) s):wpAny (model prog w) A (setNext S slot i ep) Q E s:=by
 unfold setNext;refine Dz (Fd ho rfl hf ?_);unfold setsByText;refine Dz (Dz (GK (DE ?_)));have hb':(model prog w).w.params.followText "set-order" = true:=hb;rw [if_pos hb',if_neg (by simp)];unfold setWalk;refine Dz (Dz (Fd ho rfl hf ?_));unfold setsByText;refine Dz (Dz (GK (DE ?_)));rw [if_pos hb'];exact Dz (GK (DE (DE h)))
theorem lh{slot i:Nat}{Q:Option (DF×Nat)->DA->Prop}(ho:s.heap.get? S=some (aU es ep t))(hf:t.fits es.size=true)(hb:w.params.followText "set-order" = false)(hl:t.led=true)(hd:(!t.plain && decide (es.size > 1))=false)
 (h:Q (match es[below t.place slot]?,t.place[below t.place slot]? with | some (_,x),some j=>some (x,j+1) | _,_=>none) s):wpAny (model prog w) A (setNext S slot i ep) Q E s:=by
 unfold setNext;refine Dz (Fd ho rfl hf ?_);unfold setsByText;refine Dz (Dz (GK (DE ?_)));rw [if_neg (by rw [show (model prog w).w.params.followText "set-order" = false from hb];exact DY)];show wpAny _ _ (if (!t.plain && decide (es.size > 1))=true then _ else _) _ _ _;rw [hd,if_neg DY];show wpAny _ _ ((if (!t.led && !es.isEmpty)=true then (unsupported "set:maker-not-led" : Sem Unit) else pure ()) >>= _) _ _ _;rw [hl,if_neg (by simp)];exact Dz (DE (DE h))
theorem pD:entryFor table "set_iterator.__iter__" = some FO.«dict_keyiterator.__iter__»:=
 Mk (id':="dict_keyiterator.__iter__") (by kernel_rfl) (by first | rfl | decide +kernel) (by decide +kernel) (by kernel_rfl)
theorem rC(x:DF):argsOk "set_iterator.__iter__" ⟨[x],[]⟩:=by unfold argsOk;kernel_rfl
theorem nP{first:DF}{i n:Nat}{Q:DF->DA->Prop}(hI:s.heap.get? I=some (cH first i S n ep))(h:Q (.ref I) s):wpAny (model prog w) A (pyIter (.ref I)) Q E s:=by
 have hT:s.TypeIs (.ref I) "set_iterator":=⟨_,hI,rfl⟩;refine Lk hT j0 (EH j0 hT pD ?_ (rC _));show wpAny _ _ (ret (.ref I)) _ _ s;exact DE ⟨_,rfl,"set_iterator",_,hT,dI.lookup,h⟩
theorem xp(hh:A.handled=none)(hIS:I≠S)(hf:t.fits es.size=true)(hl:t.led=cq w)(hm:w.params.followText "set-order" = true\/cO t.place/\(!t.plain && decide (es.size > 1))=false) :
 ∃ord:List DF,ord.Perm (es.toList.map (·.2))/\M3 prog w A I [I,S] [I] es.size (λi v=>ord[i]? = some v)
  (λi h=>(∃slot:Nat,h.get? I=some (cH (.int slot 0) i S es.size ep)/\(w.params.followText "set-order" = true\/below t.place slot=i))/\h.get? S=some (aU es ep t)):=by
 cases hb:w.params.followText "set-order" with
 | true=>
  refine ⟨(pickOrder (w.params.setOrder S ep) es).toList.map (·.2),(fA _ _).map _,λb hb=>by simp at hb;simp [hb],?_,?_,?_,?_⟩
  · rintro i h h' ⟨⟨sl,h1,h2⟩,h3⟩ hk;exact ⟨⟨sl,hk I (by simp) _ h1,h2⟩,hk S (by simp) _ h3⟩
  · rintro i s Q E hi ⟨⟨sl,h1,_⟩,h3⟩ hQ;have hz:=il (fA (w.params.setOrder S ep) es);have hx:(pickOrder (w.params.setOrder S ep) es)[i]? = some (pickOrder (w.params.setOrder S ep) es)[i]:=D8 (by omega);refine xn (nx:=sl) (x:=((pickOrder (w.params.setOrder S ep) es)[i]).2) h1 h3 hf (λQ' hq=>oT h3 hf hb (by rw [hx];exact hq)) λh' hs h1'=>?_;exact hQ _ h' s.toks (by rw [Ef,Eu,hx];rfl) ⟨⟨sl,h1',.inl rfl⟩,(hs.2 S hIS.symm).trans h3⟩ λb o hb' e=>(hs.2 b (λq=>hb' (by simp [q]))).trans e
  · rintro s Q E ⟨⟨sl,h1,_⟩,h3⟩ hQ;refine mR hh h1 h3 hf (λQ' hq=>oT h3 hf hb ?_) λh' hs=>hQ h' s.toks λb o hb' e=>hs b o (λq=>hb' (by simp [q])) e;have hz:=il (fA (w.params.setOrder S ep) es);rw [GR (by omega)];exact hq
  · rintro i s Q E ⟨⟨sl,h1,_⟩,h3⟩ hq;exact nP h1 hq
 | false=>
  have hm':cO t.place/\(!t.plain && decide (es.size > 1))=false:=hm.resolve_left (by rw [hb];exact DY);have hled:t.led=true:=by rw [hl];unfold cq;rw [hb];rfl
  have hps:t.place.size=es.size:=by
   unfold Jv at hf;simp only [FA,beq_iff_eq] at hf;exact hf.1
  refine ⟨es.toList.map (·.2),.refl _,λb hb=>by simp at hb;simp [hb],?_,?_,?_,?_⟩
  · rintro i h h' ⟨⟨sl,h1,h2⟩,h3⟩ hk;exact ⟨⟨sl,hk I (by simp) _ h1,h2⟩,hk S (by simp) _ h3⟩
  · rintro i s Q E hi ⟨⟨sl,h1,h2⟩,h3⟩ hQ;have h2:below t.place sl=i:=h2.resolve_left DY;have hx:es[i]? = some (es[i].1,es[i].2):=D8 hi;have hp:t.place[i]? = some t.place[i]:=D8 (by omega);refine xn (nx:=t.place[i]+1) (x:=es[i].2) h1 h3 hf (λQ' hq=>lh h3 hf hb hled hm'.2 (by rw [h2,hx,hp];exact hq)) λh' hs h1'=>?_;exact hQ _ h' s.toks (by rw [Ef,Eu,hx];rfl) ⟨⟨_,h1',.inr (vd hm'.1 hp)⟩,(hs.2 S hIS.symm).trans h3⟩ λb o hb' e=>(hs.2 b (λq=>hb' (by simp [q]))).trans e
  · rintro s Q E ⟨⟨sl,h1,h2⟩,h3⟩ hQ;have h2:below t.place sl=es.size:=h2.resolve_left DY;refine mR hh h1 h3 hf (λQ' hq=>lh h3 hf hb hled hm'.2 ?_) λh' hs=>hQ h' s.toks λb o hb' e=>hs b o (λq=>hb' (by simp [q])) e;rw [h2,GR (DQ _)];exact hq
  · rintro i s Q E ⟨⟨sl,h1,_⟩,h3⟩ hq;exact nP h1 hq
theorem tK{l:List Nat}{i:Nat}:(l.map λ(j:Nat)=>rawInt (j:Int))[i]? = l[i]?.map λj=>.int (j:Int) 0:=by rw [Ef];rfl
theorem xq{T:Ep}{pl:List Nat}(hh:A.handled=none)(hIS:I≠S)(hIT:I≠T)(hf:t.fits es.size=true)(hp:pl.Perm (DV es.size)) :
 ∃ord:List DF,ord.Perm (es.toList.map (·.2))/\M3 prog w A I [I,S,T] [I] es.size (λi v=>ord[i]? = some v)
  (λi h=>h.get? I=some (cH (.ref T) i S es.size ep)/\h.get? S=some (aU es ep t)/\h.get? T=some ⟨.type "tuple",none,.seq (pl.map λ(j:Nat)=>rawInt (j:Int)).toArray 0,#[]⟩):=by
 have hlt:∀j∈pl,j < es.size:=λj hj=>D3.mp (hp.mem_iff.mp hj);have hlen:pl.length=es.size:=by rw [hp.length_eq,Ez]
 refine ⟨pl.filterMap λj=>es[j]?.map (·.2),?_,λb hb=>by simp at hb;simp [hb],?_,?_,?_,?_⟩
 · refine (hp.filterMap _).trans ?_;rw [← Jw es,I9]
 · rintro i h h' ⟨h1,h2,h3⟩ hk;exact ⟨hk I (by simp) _ h1,hk S (by simp) _ h2,hk T (by simp) _ h3⟩
 · rintro i s Q E hi ⟨h1,h2,h3⟩ hQ;have hx:pl[i]? = some pl[i]:=DW (by omega);have hj:=hlt _ (E9 (by omega:i < pl.length));refine Ce h1 h2 hf h3 (p:=pl[i]) (tp:=0) (by rw [Ka,tK,hx];rfl) hj λh' hs h1'=>?_;refine hQ _ h' s.toks ?_ ⟨h1',(hs.2 S hIS.symm).trans h2,(hs.2 T hIT.symm).trans h3⟩ λb o hb' e=>(hs.2 b (λq=>hb' (by simp [q]))).trans e;have:(pl.filterMap λj=>es[j]?.map (·.2))=pl.map λj=>(es.getD j (0,.none)).2:=by
    refine xo λj hjm=>?_;have:=hlt j hjm;simp [Ji,this]
   rw [this,Ef,hx];simp [Ji,hj]
 · rintro s Q E ⟨h1,h2,h3⟩ hQ;exact vf hh h1 h2 hf h3 (by rw [Ka,tK,E8 (by omega)];rfl) λh' hs=>hQ h' s.toks λb o hb' e=>hs b o (λq=>hb' (by simp [q])) e
 · rintro i s Q E ⟨h1,_,_⟩ hq;exact nP h1 hq
end
set_option backward.match.sparseCases false
section
variable {prog:Fc} {w:Fs} {A:Em} {E:DF->DA->Prop} {s:DA} {S:Ep} {es:Array (Int×DF)} {ep:Nat} {t:SetTable}
theorem vg(hh:A.handled=none)(ho:s.heap.get? S=some (aU es ep t))(hf:t.fits es.size=true)(hl:t.led=cq w)(hr:t.plain=true->cO t.place)(h60:es.size < 60){Q:DF->DA->Prop}
 (hQ:∀(I:Ep) (ord:List DF) (St:Nat->EI->Prop) (fp:List Ep) (s':DA),M3 prog w A I fp [I] es.size (λi v=>ord[i]? = some v) St->St 0 s'.heap->ord.Perm (es.toList.map (·.2))->(∀b o,s.heap.get? b=some o->s'.heap.get? b=some o)->s.heap.objs.size<=I->(∀b∈fp,b=S\/s.heap.objs.size<=b)->s'.gens=s.gens->s'.os=s.os->Q (.ref I) s') :
 wpAny (model prog w) A (pyIter (.ref S)) Q E s:=by
 have hT:s.TypeIs (.ref S) "set":=⟨_,ho,rfl⟩;have hS:=Ec ho;have hps:t.place.size=es.size:=by
  unfold Jv at hf;simp only [FA,beq_iff_eq] at hf;exact hf.1
 refine Lk hT LS (EH LS hT mQ ?_ (F.args_set_iter_1 _));unfold FO.«frozenset.__iter__»;show wpAny _ _ (pure S >>= _) _ _ s;refine Dz (DE ?_);unfold Builtin.Frozenset.sizeOf;refine Dz (Dz (Kt ho rfl hf (DE ?_)));unfold setDrawn;refine Dz (Dz (Fd ho rfl hf ?_));unfold setsByText;refine Dz (Dz (GK (DE ?_)));refine DE ?_;refine IR (λhq=>?_) (λhq=>?_)
 · refine Dz (tJ es.size (DV es.size) _ _ (Ez) λpl d hp=>?_);have hpl:pl.length=es.size:=by rw [hp.length_eq,Ez]
   refine Dz (Kj ?_ (by rw [DD,hpl,EP];exact D9 (DI h60 (by decide))));have ho1:(s.heap.push {cls:=.type "tuple",data:=.seq (pl.map λ(j:Nat)=>rawInt (j:Int)).toArray}).get? S=some (aU es ep t):=DJ _ ho;refine Dz (Ll (s:={s with heap:=_,drawn:=d}) ho1 rfl hf ?_);refine Dz (FH ?_);have hz:(s.heap.push {cls:=.type "tuple",data:=.seq (pl.map λ(j:Nat)=>rawInt (j:Int)).toArray}).objs.size=s.heap.objs.size+1:=by rw [FD]
   refine aN (xq (prog:=prog) (w:=w) (A:=A) (I:=s.heap.objs.size+1) (S:=S) (T:=s.heap.objs.size) (ep:=ep) (t:=t) hh (EY (En hS)) (Lw _) hf hp) λord o1 o2=>?_;have hI:((s.heap.push {cls:=.type "tuple",data:=.seq (pl.map λ(j:Nat)=>rawInt (j:Int)).toArray}).push (cH (.ref s.heap.objs.size) 0 S es.size ep)).get? (s.heap.objs.size+1)=some (cH (.ref s.heap.objs.size) 0 S es.size ep):=by rw [← hz];exact DZ _ rfl
   refine DE ⟨_,rfl,"set_iterator",_,⟨_,DZ _ rfl,rfl⟩,dI.lookup,?_⟩;rw [hz];refine hQ _ ord _ _ _ o2 ⟨hI,DJ _ ho1,DJ _ (DZ _ rfl)⟩ o1 (λb o e=>DJ _ (DJ _ e)) (E6 _) (λb hb=>?_) rfl rfl;simp only [D5,DX,or_false] at hb;rcases hb with rfl | rfl | rfl
   · exact .inr (E6 _)
   · exact .inl rfl
   · exact .inr (DQ _)
 · have hq:¬(!(w.params.followText "set-order") && (!t.plain && decide (es.size > 1)))=true:=hq;refine Dz (DE ?_);refine Dz (Ll ho rfl hf ?_);refine Dz (FH ?_);obtain ⟨ord,o1,o2⟩:=xp (prog:=prog) (w:=w) (A:=A) (I:=s.heap.objs.size) (S:=S) (ep:=ep) (t:=t) hh (EY hS) hf hl (by
    cases hb:w.params.followText "set-order" with
    | true=>exact .inl rfl
    | false=>
     rw [hb] at hq;have hd:(!t.plain && decide (es.size > 1))=false:=by simpa using hq
     refine .inr ⟨?_,hd⟩;cases hp:t.plain with
     | true=>exact hr hp
     | false=>
      rw [hp] at hd;exact lM (by rw [hps];simpa using hd))
   refine DE ⟨_,rfl,"set_iterator",_,⟨_,DZ _ rfl,rfl⟩,dI.lookup,?_⟩;have hI:(s.heap.push (cH (.int (0:Nat) 0) 0 S es.size ep)).get? s.heap.objs.size=some (cH (.int (0:Nat) 0) 0 S es.size ep):=DZ _ rfl;refine hQ _ ord _ _ _ o2 ⟨⟨0,hI,?_⟩,DJ _ ho⟩ o1 (λb o e=>DJ _ e) (DQ _) (λb hb=>?_) rfl rfl
   · cases hb:w.params.followText "set-order" with
     | true=>exact .inl rfl
     | false=>
      rw [hb] at hq;have hd:(!t.plain && decide (es.size > 1))=false:=by simpa using hq
      refine .inr (vc ?_);cases hp:t.plain with
      | true=>exact hr hp
      | false=>
       rw [hp] at hd;exact lM (by rw [hps];simpa using hd)
   · simp only [D5,DX,or_false] at hb;rcases hb with rfl | rfl
     · exact .inr (DQ _)
     · exact .inl rfl
theorem yM{Q:Bool->DA->Prop}(hT:s.TypeIs (.ref S) "set")(h:Q false s):wpAny (model prog w) A (IW (.ref S)) Q E s:=by
 unfold IW;refine Dz (GT hT F.slot_set_len.lookup ?_);generalize hid:("set.__len__" : String)=id0
 wp_delta
 rw [show splitId id0=some ("set","__len__") from by subst hid;decide +kernel];subst hid;refine Dz (Hj (T:="set") (b:=true) hT (by rw [GJ];kernel_rfl) ?_);refine IR (λhab=>absurd hab (by decide)) (λ_=>?_);refine IR (λ_=>?_) (λhab=>absurd (by decide +kernel) hab);refine Dz (Hl hT ?_);exact DE h
end
section
variable {prog:Fc} {w:Fs} {A:Em} {E:DF->DA->Prop} {s:DA} {S:Ep} {es:Array (Int×DF)} {ep:Nat} {t:SetTable}
theorem yN{ord:List DF}{acc:Array DF}{n:Nat}(h:ItemsOf (λi v=>ord[i]? = some v) acc n)(hn:ord.length=n):acc.toList=ord:=by
 refine G5 λi=>?_;rw [Eu];by_cases q:i < acc.size
 · rw [D8 q];exact (h.2 i _ (D8 q)).symm
 · rw [GR (by exact E2.mp q),E8 (by have:=h.1;exact DM (DM (Ee hn) (Ee this.symm)) (E2.mp q))]
theorem vh{R:Iq->DA->Prop}{D:Ep}{c₀:Nat}{res:DF}(hh:A.handled=none)(ho:s.heap.get? S=some (aU es ep t))(hf:t.fits es.size=true)(hl:t.led=cq w)(hr:t.plain=true->cO t.place)(h60:es.size < 60)(hDS:D≠S)
 (hD:s.heap.get? D=some {cls:=.type "list",data:=.seq #[] c₀})
 (hR:∀s' acc c,(∀b o,b≠D->s.heap.get? b=some o->s'.heap.get? b=some o)->s'.gens=s.gens->s'.os=s.os->s'.heap.get? D=some {cls:=.type "list",dict:=none,data:=.seq acc c,slots:=#[]}->acc.toList.Perm (es.toList.map (·.2))->R (.ok (.ret res)) s') :
 wpAny (model prog w) A.in1 (G8 (.ref D) (.ref S) res)
  (λfin s'=>match fin with | .done f=>R (.ok f) s' | .again c'=>c'.quiet=true/\codeAny (model prog w) A c' R s') (λe s'=>R (.error e) s') s:=by
 have hT:s.TypeIs (.ref S) "set":=⟨_,ho,rfl⟩;have hDl:=Ec hD;unfold G8;refine Dz (Hl hT ?_);have h1:Jy (.ref D) (.ref S)=false:=by simp [Jy,hDS]
 simp only [h1,show (HG "set" == HG "list")=false by decide,show (HG "set" == HG "tuple")=false by decide,Bool.or_false,Gq,if_false];refine Dz (vg (A:=A.in1) hh ho hf hl hr h60 λI ord St fp s' Wk st hp hk hI hfp hg hos=>?_);have hord:ord.length=es.size:=by rw [hp.length_eq,DD,DT]
 have hDf:D∉fp:=λhm=>by
  rcases hfp D hm with q | q
  · exact hDS q
  · exact E2.mpr q hDl
 have key:∀(h:EI) (c₁:Nat),St 0 h->(∀b o,b≠D->s.heap.get? b=some o->h.get? b=some o)->h.get? D=some {cls:=.type "list",data:=.seq #[] c₁}->
  codeAny (model prog w) A (.builtin "list.extend.loop" ⟨[.ref D,.ref I,res],[]⟩) R {s' with heap:=h}:=by
  intro h c₁ hst hkh hD1;refine codeAny_extend_loopS Wk.toS (by rw [EP];exact D9 (DI h60 (by decide))) D hDf res es.size 0 {s' with heap:=h} #[] c₁ rfl (Eo _) hst hD1 (ItemsOf.nil _) λs'' acc c hm hD' hacc=>?_;have hme:=Moved.eq_with hm;refine hR s'' acc c (λb o hb e=>hm.heap b o (λq=>?_) (hkh b o hb e)) ?_ (hm.os.trans hos) hD' (by rw [yN hacc hord];exact hp)
  · rcases D5.mp q with q | q
    · exact hb q
    · rw [DS] at q;exact E2.mpr hI (q▸Ec e)
  · rw [hme];exact hg
 have hT':s'.TypeIs (.ref S) "set":=⟨_,hk _ _ ho,rfl⟩;have hD1:=hk _ _ hD;refine Dz (D2 (yM hT' ?_));refine IR (λ_=>?_) (λ_=>DE ⟨GX Jo _,key s'.heap c₀ st (λb o _ e=>hk b o e) hD1⟩);refine Dz (Ft ?_);refine Dz ?_;show wpAny _ _ (updateSeq D (·.push .none) >>= λ_=>updateSeq D (·.pop)) _ _ _;refine Dz (LU hD1 rfl ?_);have hD2:=ED (E7 (·.push Gz)) hD1 rfl;refine LU (hz:=by seq_fits) hD2 rfl ?_;have hD3:=ED (E7 (·.pop)) hD2 rfl;have oth:∀b o,b≠D->s'.heap.get? b=some o->((s'.heap.update D (E7 (·.push Gz))).update D (E7 (·.pop))).get? b=some o:=λb o hb e=>
  (JQ _ _ (Km hb)).trans ((JQ _ _ (Km hb)).trans e)
 exact DE ⟨GX Jo _,key _ _ (Wk.frame 0 _ _ st λb hb o e=>oth b o (λq=>hDf (q▸hb)) e) (λb o hb e=>oth b o hb (hk b o e)) hD3⟩
theorem sD{R:List DF->DA->Prop}(hh:A.handled=none)(ho:s.heap.get? S=some (aU es ep t))(hf:t.fits es.size=true)(hl:t.led=cq w)(hr:t.plain=true->cO t.place)(h60:es.size < 60)
 (h:∀s' vs,(∀b o,s.heap.get? b=some o->s'.heap.get? b=some o)->s'.gens=s.gens->s'.os=s.os->vs.Perm (es.toList.map (·.2))->R vs s'):wpAny (model prog w) A (collect (.ref S)) R E s:=by
 unfold collect;refine Dz (Mi (FW entry_proto_collect' ?_));rw [Fx PySem.F.plain_proto_collect _];show wpAny _ A.in1 (newList [] >>= λl=>again (.builtin "list.__iadd__" ⟨[l,.ref S],[]⟩)) _ _ s;refine Dz (FH ?_);refine DE ⟨GX JI _,FW entry_list_iadd' ?_⟩;rw [Fx JI _];have hD:(s.heap.push {cls:=.type "list",data:=.seq ([]:List DF).toArray}).get? s.heap.objs.size=some {cls:=.type "list",data:=.seq #[]}:=DZ _ rfl;show wpAny _ A.in1 (G8 (.ref s.heap.objs.size) (.ref S) (.ref s.heap.objs.size)) _ _ _;have key:=vh (prog:=prog) (A:=A) (s:={s with heap:=s.heap.push {cls:=.type "list",data:=.seq ([]:List DF).toArray}}) (D:=s.heap.objs.size) (c₀:=0) (res:=.ref s.heap.objs.size)
  (R:=λ(q:Iq) (s':DA)=>∃acc c,q=.ok (.ret (.ref s.heap.objs.size))/\(∀b o,s.heap.get? b=some o->s'.heap.get? b=some o)/\s'.gens=s.gens/\s'.os=s.os/\s'.heap.get? s.heap.objs.size=some {cls:=.type "list",dict:=none,data:=.seq acc c,slots:=#[]}/\acc.toList.Perm (es.toList.map (·.2)))
  hh (DJ _ ho) hf hl hr h60 (EY (Ec ho)) hD λs' acc c k1 k2 k3 k4 k5=>⟨acc,c,rfl,λb o e=>k1 b o (D1 (Ec e)) (DJ _ e),k2,k3,k4,k5⟩
 refine DU key (λfin s' x=>?_) λe s' x=>?_
 · cases fin with
   | done f=>
    refine AM x λacc c e k1 k2 k3 k4 k5=>?_;cases e;show wpAny _ A (load s.heap.objs.size >>= _) _ _ _;refine Dz (KF k4 ?_);exact DE (h s' _ k1 k2 k3 k5)
   | again c₁=>
    refine ⟨x.1,Hm x.2 λq s₂ y=>?_⟩;refine AM y λacc c e902 k1 k2 k3 k4 k5=>?_;subst e902;show wpAny _ A (load s.heap.objs.size >>= _) _ _ _;refine Dz (KF k4 ?_);exact DE (h s₂ _ k1 k2 k3 k5)
 · refine bf x λ_ _ e' _=>?_;cases e'
end
set_option backward.match.sparseCases true
noncomputable def cv(n:Nat){α:Type}:KasT α->(α->Prop)->Prop
 | .ret a,P=>P a
 | .ask i j k,P=>i < n/\j < n/\∀b,cv n (k b) P
theorem cv.bind{n:Nat}{α β:Type}{f:α->KasT β}{P:β->Prop}:∀(t:KasT α),cv n t (λa=>cv n (f a) P)->cv n (t.bind f) P
 | .ret _,h=>h
 | .ask _ _ k,h=>⟨h.1,h.2.1,λb=>cv.bind (k b) (h.2.2 b)⟩
theorem cv.mono{n:Nat}{α:Type}{P P':α->Prop}(hp:∀a,P a->P' a):∀(t:KasT α),cv n t P->cv n t P'
 | .ret a,h=>hp a h
 | .ask _ _ k,h=>⟨h.1,h.2.1,λb=>cv.mono hp (k b) (h.2.2 b)⟩
theorem cv.wp{n:Nat}{α:Type}{P:α->Prop}{cmp:Nat->Nat->(Bool->DA->Prop)->DA->Prop}{s:DA}{Q:α->DA->Prop}(hc:∀i j C,i < n->j < n->(∀b,C b s)->cmp i j C s)(hq:∀a,P a->Q a s):∀(t:KasT α),cv n t P->t.kasWp cmp Q s
 | .ret a,h=>hq a h
 | .ask i j k,h=>hc i j _ h.1 h.2.1 λb=>cv.wp hc hq (k b) (h.2.2 b)
noncomputable def PR(n:Nat)(p:Array Nat):Prop:=p.toList.Perm (DV n)
theorem PR.lt{n:Nat}(h0:0 < n){p:Array Nat}(h:PR n p)(i:Nat):p.getD i 0 < n:=by
 unfold Ji;split
 · exact D3.mp (h.mem_iff.mp (Fu.mpr (Jq _)))
 · exact h0
theorem PR.of{n:Nat}{p q:Array Nat}(h:PR n p)(e:q.Perm p):PR n q:=(Array.perm_iff_toList_perm.mp e).trans h
theorem PR.rev{n:Nat}{p:Array Nat}(h:PR n p)(i j:Nat):PR n (kas_rev p i j):=h.of (mirror_perm _ _ _ _)
theorem vi{n:Nat}(h0:0 < n){p:Array Nat}(h:PR n p):∀(f m:Nat),cv n (kas_asc p f m) λ_=>True
 | 0,m=>trivial
 | f+1,m=>⟨h.lt h0 _,h.lt h0 _,λb=>by cases b with | true=>exact trivial | false=>exact vi h0 h f (m+1)⟩
theorem mS{n:Nat}(h0:0 < n):∀(f:Nat) (p:Array Nat) (m q:Nat),PR n p->cv n (kas_desc f p m q) λr=>PR n r.1
 | 0,p,m,q,h=>h
 | f+1,p,m,q,h=>⟨h.lt h0 _,h.lt h0 _,λb=>by
  cases b with
  | true=>
   dsimp only;rw [if_pos rfl];split
   · exact mS h0 f _ _ _ (h.rev _ _)
   · exact mS h0 f _ _ _ h
  | false=>
   dsimp only;rw [if_neg DY];exact ⟨h.lt h0 _,h.lt h0 _,λd=>by cases d with | true=>exact h | false=>exact mS h0 f _ _ _ h⟩⟩
theorem xr{n:Nat}(h0:0 < n){p:Array Nat}(h:PR n p)(m r:Nat):cv n (kas_tail3 m r p) λr=>PR n r.2:=
 cv.bind _ (cv.mono (λ_ _=>h.rev _ _) _ (vi h0 (h.rev _ _) _ _))
theorem mT{n:Nat}(h0:0 < n){p:Array Nat}(h:PR n p)(m r:Nat):cv n (kas_descPart m r p) λr=>PR n r.2:=
 cv.bind _ (cv.mono (λx hx=>by
  split
  · exact xr h0 (hx.rev _ _) _ _
  · exact xr h0 hx _ _) _ (mS h0 _ _ _ _ h))
theorem AB{n:Nat}(h0:0 < n){p:Array Nat}(h:PR n p)(r:Nat):cv n (kas_count r p) λr=>PR n r.2:=
 cv.bind _ (cv.mono (λx _=>by
  split
  · exact h
  · split
    · exact ⟨h.lt h0 _,h.lt h0 _,λb=>by cases b with | true=>exact h | false=>exact mT h0 (h.rev _ _) _ _⟩
    · exact mT h0 h _ _) _ (vi h0 h _ _))
theorem nQ{n:Nat}(h0:0 < n){p:Array Nat}(h:PR n p)(k:Nat):∀(f l r:Nat),cv n (kas_place p k f l r) λ_=>True
 | 0,l,r=>trivial
 | f+1,l,r=>by
  unfold kas_place;split
  · exact trivial
  · exact ⟨h.lt h0 _,h.lt h0 _,λb=>by cases b with | true=>exact nQ h0 h k f _ _ | false=>exact nQ h0 h k f _ _⟩
theorem zy{n:Nat}(h0:0 < n):∀(f:Nat) (p:Array Nat) (k:Nat),PR n p->cv n (kas_bin f p k) (PR n)
 | 0,p,k,h=>h
 | f+1,p,k,h=>cv.bind _ (cv.mono (λ_ _=>zy h0 f _ _ (h.of (bubble_perm _ _ _))) _ (nQ h0 h _ _ _ _))
theorem Cf{n:Nat}(h0:0 < n):cv n (kas_sort n) (PR n):=
 cv.bind _ (cv.mono (λx hx=>by
  split
  · exact zy h0 _ _ _ hx
  · exact hx) _ (AB h0 (.refl _) n))
section
variable {prog:Fc} {w:Fs} {A:Em} {E:DF->DA->Prop} {s:DA} {a:Ep} {vs:List DF}
theorem yO{n:Nat}{κ:SortKind}{P:Kk->DA->Prop}(ho:s.heap.get? a=some (seqObj "list" vs.toArray n))(h64:vs.length < 64)
 (hk:2<=vs.length->∀h,(∀b o,b≠a->s.heap.get? b=some o->h.get? b=some o)->∀Q':SortKind->DA->Prop,Q' κ {s with heap:=h}->wpAny (model prog w) A (keyKind' vs.toArray) Q' E {s with heap:=h})
 (hc:∀v∈vs,∀u∈vs,∀h,(∀b o,b≠a->s.heap.get? b=some o->h.get? b=some o)->∀Q':Bool->DA->Prop,(∀b,Q' b {s with heap:=h})->wpAny (model prog w) A (keyLt' κ v u) Q' (λ_ _=>False) {s with heap:=h})
 (h:∀h' out c,(∀b o,b≠a->s.heap.get? b=some o->h'.get? b=some o)->h'.get? a=some (seqObj "list" out c)->out.toList.Perm vs->P (.done (.ret .none)) {s with heap:=h'}) :
 wpAny (model prog w) A (FO.«list.sort» ⟨[.ref a],[]⟩) P E s:=by
 have s1:=Ej s.heap a (E7 λ_=>(#[]:Array DF));obtain ⟨e1,ho1⟩:∃e1,(s.heap.update a (E7 λ_=>(#[]:Array DF))).get? a=some (seqObj "list" #[] e1):=⟨_,Hz ho λ_=>#[]⟩;have hkeep:∀b o,b≠a->s.heap.get? b=some o->(((s.heap.update a (E7 λ_=>(#[]:Array DF))).push (seqObj "tuple" vs.toArray 0)).push (seqObj "list" #[] 0)).get? b=some o:=λb o hb e=>
  DJ _ (DJ _ ((s1.2 b hb).trans e))
 have ho2:(((s.heap.update a (E7 λ_=>(#[]:Array DF))).push (seqObj "tuple" vs.toArray 0)).push (seqObj "list" #[] 0)).get? a=some (seqObj "list" #[] e1):=DJ _ (DJ _ ho1);rw [list_sort_plain];refine Dz (Li ho rfl ?_);refine Dz (Hu ho rfl ?_ (by rw [FU,EP];omega) (Eo _));refine Dz (Ki ho1 rfl ?_);refine Dz (Kj ?_ (by show vs.length<=_;rw [EP];omega));refine Dz (IA ?_ (Eo _));refine D2 ?_;show wpAny (model prog w) A _ P E {s with heap:=((s.heap.update a (E7 λ_=>(#[]:Array DF))).push (seqObj "tuple" vs.toArray 0)).push (seqObj "list" #[] 0)};generalize ((s.heap.update a (E7 λ_=>(#[]:Array DF))).push (seqObj "tuple" vs.toArray 0)).push (seqObj "list" #[] 0)=h1 at hkeep ho2;have fin:∀(st:SortSt) (out:List DF),(arrOf st).map (·.2)=out.toArray->failedOf st=none->out.Perm vs->wpAny (model prog w) A (do
  let sorted:=(arrOf st).map (·.2);let touched:=(← seqEpoch a) != e1
  Builtin.List.listUpdate (.ref a) λ_=>sorted
  if let some e:=failedOf st then rule "list.sort.comparison-raised";throw e
  if touched then rule "list.sort.modified";raiseError "ValueError" "list modified during sort"
  ret .none) P E {s with heap:=h1}:=by
  intro st out he hf hp;have s2:=Ej h1 a (E7 λ_=>out.toArray);rw [he];refine Dz (Ki ho2 rfl ?_);refine Dz (Hu ho2 rfl ?_ (Eo _) (DM (by show out.toArray.size<=64;rw [FU,hp.length_eq];omega) (by rw [EP];omega)));rw [hf];simp only [bne_self_eq_false,Gq,if_false];exact DE (h _ _ _ (λb o hb e=>(s2.2 b hb).trans (hkeep b o hb e)) (Hz ho2 λ_=>out.toArray) hp)
 dsimp only;by_cases h2:vs.toArray.size < 2
 · rw [if_pos h2,if_pos h2];refine Dz (DE ?_);rw [StateT.run_pure];refine Dz (DE ?_);exact fin (SortSt.mk' general' (vs.toArray.zip vs.toArray) #[] 7 none) vs (by
    show ((vs.toArray.zip vs.toArray).map (·.2))=vs.toArray;apply Array.toList_inj.mp;rw [Array.toList_map,ksk_zip,List.map_snd_zip (DQ _)]) rfl (.refl _)
 · rw [if_neg h2,if_neg h2];rw [FU] at h2;refine Dz (hk (by omega) h1 hkeep _ ?_);have hrun:=kat_run (prog:=prog) (w:=w) (A:=A) (E:=E) (s:={s with heap:=h1}) (ks:=vs) (vs:=vs) (κ:=κ) (Q:=λst' s'=>s'={s with heap:=h1}/\∃p:Array Nat,PR vs.length p/\arrOf st'=p.map (kas_item (vs.toArray.zip vs.toArray))/\failedOf st'=none)
    (G:=λp s'=>PR vs.length p/\s'={s with heap:=h1}) rfl (by omega) h64 (λp st' s' a1 a2 a3 a4=>⟨a4.2,p,a4.1,a2,a3⟩)
    (cv.wp (n:=vs.length) (λi j C hi hj hC=>hc _ (by rw [EA,DW hi];exact E9 hi) _ (by rw [EA,DW hj];exact E9 hj) h1 hkeep C hC) (λp hp=>⟨hp,rfl⟩) _ (Cf (by omega)))
   refine Dz (DU hrun ?_ λ_ _ x=>x);rintro ⟨⟨⟩,st'⟩ s' ⟨rfl,p,hp,har,hf⟩;refine fin st' (p.toList.map λi=>vs.getD i Gz) (kat_snds rfl har) hf ?_;refine (hp.map _).trans (List.Perm.of_eq ?_);refine G5 λi=>?_;rw [Ef];by_cases q:i < vs.length
   · rw [Gg q];simp [q]
   · rw [E8 (by simpa using q),E8 (by omega)];rfl
end
set_option backward.match.sparseCases false
section
variable {prog:Fc} {w:Fs} {A:Em} {E:DF->DA->Prop} {s:DA} {L:ao} {X Y:PV} {u v:DF}
theorem rD{Q:Bool->DA->Prop}{fin:Bool}(hq:∀b,Q b s):∀(l:List (DF×DF)) (i:Nat),(∀p∈l,(∃i t,p.1=HM i t)/\∃i t,p.2=HM i t)->KatLex prog w A true fin Q l (i+1) s
 | [],i,_=>kat_nil (hq _)
 | (p,q)::l,i,h=>by
  obtain ⟨⟨x,t,e1⟩,⟨y,t',e2⟩⟩:=h (p,q) (EJ ..);dsimp only at e1 e2;subst e1;subst e2;refine kat_cons (wpAny_eqBool_int ?_);cases (x == y) with
  | true=>exact kat_yes (rD hq l (i+1) λp hp=>h p (E3 _ hp))
  | false=>exact kat_no (kat_one _ _ (PyProof.Rows.lt_int (hq _)))
theorem AC{Q:Bool->DA->Prop}(hX:bD X=true)(hY:bD Y=true)(hu:ak L s.heap X u)(hv:ak L s.heap Y v)(hq:∀b,Q b s):wpAny (model prog w) A (keyLt' (tuples' true) u v) Q E s:=by
 obtain ⟨a,xs,n,rfl,ha,o,t,r,e,hr⟩:=bY hX hu;obtain ⟨b,ys,k,rfl,hb,o',t',r',e',hr'⟩:=bY hY hv;refine kat_lt ha rfl hb rfl ?_;rw [e,e',Ja];refine kat_cons (wpAny_eqBool_str ?_);cases decide (o=o') with
 | true=>exact kat_yes (rD hq _ 0 λp hp=>⟨hr _ (Hx hp).1,hr' _ (Hx hp).2⟩)
 | false=>exact kat_no (oneLt_str (hq _))
theorem oU:∀{m:List PV} {vs:List DF},ag L s.heap m vs->(∀x∈m,bD x=true)->∃fs,KatTups s.heap vs fs/\fs.length=vs.length/\∀f∈fs,∃o t,f=Lv o t
 | [],vs,e,_=>e.nilE (m:=λvs=>∃fs,KatTups s.heap vs fs/\fs.length=vs.length/\∀f∈fs,∃o t,f=Lv o t) ⟨[],KatTups.nil,rfl,λf hf=>(DX hf).elim⟩
 | x::m,vs,e,hm=>by
  refine eB e λv r e902 hx hr=>?_;subst e902;refine aZ (oU hr λy hy=>hm y (E3 _ hy)) λfs h1 h2 h3=>?_;obtain ⟨a,items,n,rfl,ha,o,t,r',e',_⟩:=bY (hm x (EJ ..)) hx;refine ⟨.str o t::fs,KatTups.cons ha rfl rfl (by rw [← Eu,e'];rfl) h1,by simp [h2],λf hf=>?_⟩;rcases D5.mp hf with rfl | hf
  · exact ⟨o,t,rfl⟩
  · exact h3 f hf
theorem zz:∀{m:List PV} {vs:List DF},ag L s.heap m vs->(∀x∈m,∃i,x=.int i)->G4 vs (vs.map HJ)
 | [],vs,e,_=>e.nilE (m:=λvs=>G4 vs (vs.map HJ)) .nil
 | x::m,vs,e,hm=>by
  refine eB e λv r e902 hx hr=>?_;subst e902;obtain ⟨i,rfl⟩:=hm x (EJ ..);obtain ⟨t,rfl⟩:=hx;exact .cons i t (zz hr λy hy=>hm y (E3 _ hy))
end
theorem yP{c:Cx}(G:Gd c):∀(sc:az) (e:E) (pf pg p2 p:Pos),SE c sc e->sc.lookup "sorted" = some .globalImplicit->sc.lookup "set" = some .globalImplicit->SE c sc (.sortedSet e pf pg p2 p):=by
 intro sc e pf pg p2 p he h1 h2 A s σ L env ρ Q k hR W F hw;show wpAny _ _ (eval (.Call (.Name (Dy "sorted") pf) [.Call (.Name (Dy "set") pg) [e.py] [] p2] [] p) env) _ _ _;rw [GD];refine Dz (cu G W F h1 (show fi.lookup "sorted" = some (.builtin "sorted") by decide) ?_);refine PySem.callWith_builtin1 ?_;show wpAny _ _ (eval (.Call (.Name (Dy "set") pg) [e.py] [] p2) env) _ _ _;rw [GD,fC];refine Dz (cu G W F h2 (show fi.lookup "set" = some (.type "set") by decide) ?_);refine PySem.callWith_type1 (he.use hR W F hw λV σ1 L1 v s₁ W1 X1 F1 hv hq=>?_);revert hv;cases hq with
 | @mk q l hσ h60 hall hq=>
  refine λhv=>hv.refE λ_=>?_;refine bf (W1.objs q _ hσ) λitems n hl hlr=>?_;obtain ⟨kd,hg⟩:∃kd,∀x∈l,nO kd x:=by
   rcases hall with h | h
   · refine ⟨true,λx hx=>?_⟩;obtain ⟨ns,e⟩:=FJ.mp h;rw [a7 e,DO] at hx;obtain ⟨i,_,rfl⟩:=hx;exact ⟨i,rfl⟩
   · exact ⟨false,λx hx=>h x hx⟩
  have hu:=hR.units;refine yL (kd:=kd) (lst:=l) hR.1 (by omega) ⟨_,hl,rfl,n,rfl⟩ hlr h60 hg λs₂ m k1 k2 k3 H hm hml=>?_;obtain ⟨es,ep,t,ho,hr,hgm,hk⟩:=H;have hz:es.size=m.length:=by have:=hr.length;rw [DD,DT] at this;exact this
  have hfl:t.fits es.size=true/\t.led=cq c.w/\(t.plain=true->cO t.place):=by
   cases kd with
   | true=>exact ⟨hk.2.1,hk.2.2.1,hk.2.2.2⟩
   | false=>
    refine ⟨hk.1.fits,hk.2.1,λhp=>lM ?_⟩;rw [hk.1.size];rcases KD es.size with e | e
    · omega
    · rw [hk.2.2 e] at hp;cases hp
  refine Jm Lz K6 K7 (Mv _) ?_;unfold FO.«sorted»;refine Dz (m:=checkCount "sorted" 1 1 _) (DE ?_);refine Dz (aI (sD (A:=A.in1) hR.1 ho hfl.1 hfl.2.1 hfl.2.2 (by omega) λs₃ vs g1 g2 g3 hp hsz=>?_));have hr₃:ag L1 s₃.heap m (es.toList.map (·.2)):=hr.mono (VM.step (B:=λ_=>False) (λb o _ e=>g1 b o e) λ_ _ x=>x.elim);obtain ⟨m',q1,q2⟩:=ag.perm hp.symm hr₃;have hvl:vs.length=m.length:=by rw [hp.length_eq,DD,DT,hz]
  have hgm':∀x∈m',nO kd x:=λx hx=>hgm x (q2.mem_iff.mp hx);refine Dz (IA ?_ (by rw [EP];omega));have hoL:(s₃.heap.push {cls:=.type "list",data:=.seq vs.toArray}).get? s₃.heap.objs.size=some (seqObj "list" vs.toArray 0):=DZ _ rfl;have hVM:∀{h:EI},(∀b o,b≠s₃.heap.objs.size->(s₃.heap.push {cls:=.type "list",data:=.seq vs.toArray}).get? b=some o->h.get? b=some o)->VM s₃ {s₃ with heap:=h} L1 L1:=λhk'=>
   VM.step (B:=λ_=>False) (λb o _ e=>hk' b o (D1 (Ec e)) (DJ _ e)) λ_ _ x=>x.elim
  refine Dz (D2 (EH Ke ⟨_,hoL,rfl⟩ JW (yO (κ:=if kd=true then oneType' else tuples' true) hoL (by omega) (λh2' h hk' Q' hQ'=>?_) (λv hv u hu h hk' Q' hQ'=>?_) λh' out cc K h4 hpo=>⟨_,rfl,?_⟩) (L8 _)))
  · cases kd with
    | true=>
     rw [ksk_kind (keys:=vs.toArray) (zz q1 hgm') (by rw [FU];exact h2')];exact DE hQ'
    | false=>
     refine aZ (oU (s:={s₃ with heap:=h}) (q1.mono (hVM hk')) hgm') λfs f1 f2 f3=>?_;refine kat_kind (T:=.type "str") f1 (by omega) (λx hx=>?_) (by decide) hQ';obtain ⟨o,t,rfl⟩:=f3 x hx;exact Jz rfl
  · obtain ⟨x,hx,hxv⟩:=q1.mem v hv;obtain ⟨y,hy,hyu⟩:=q1.mem u hu;cases kd with
    | true=>
     obtain ⟨i,rfl⟩:=hgm' x hx;obtain ⟨j,rfl⟩:=hgm' y hy;obtain ⟨_,rfl⟩:=hxv;obtain ⟨_,rfl⟩:=hyu;exact kat_lt_int (hQ' _)
    | false=>exact AC (s:={s₃ with heap:=h}) (hgm' x hx) (hgm' y hy) (hxv.mono (hVM hk')) (hyu.mono (hVM hk')) hQ'
  · obtain ⟨W3,X3⟩:=W1.grow (s':=s₃) (DM (D9 (Ec ho)) hsz) (λb o e=>g1 b o (k1 b o e)) (g2.trans k2) (g3.trans k3);obtain ⟨r,r1,r2⟩:=ag.perm hpo.symm q1;refine DE ⟨_,rfl,aq.trans X1 (aq.trans X3 (aq.newList (n:=cc) W3 (DQ _) (λb o e=>K b o (D1 (Ec e)) (DJ _ e)) rfl rfl h4 r1 (hq r (λx=>?_) ?_)))⟩
    · rw [r2.mem_iff,q2.mem_iff,hm]
    · rw [r2.length_eq,q2.length_eq];exact hml
theorem AD{c:Cx}(G:Gd c) (hd:∀(A:Em) (s:DA) (σ:aa) (L:ao) (p:al) (l:List PV) (Q:PV->aa->Prop),A.handled=none->A.units+60 < cLine->Wd c s σ L->σ p=some (.list l)->l.length < ay->cJ l [] (λd=>aQ σ (.dict d) Q)->
 wpAny (model c.prog c.w) A (call (.type "dict") [.ref (L.ad p)]) (aq c s L Q) aY s)
 (hs:∀(sc scI:az) (d w x:String) (p1 p2 p3 p4 p5 p6 p7 p8 p9 p10 p11 p:Pos),(p7.endLine == p9.line)=true->bw sc scI (.name x p4)=true->scI.lookup d=some .free->scI.lookup w=some .free->(∀y∈[d,w,x],y≠"__debug__"/\y≠"__classdict__")->SE c sc (.dsel d w x p1 p2 p3 p4 p5 p6 p7 p8 p9 p10 p11 scI p))
 (hg:∀(sc:az) (d:String) (pf pd pd2 pa pk p:Pos),d≠"__debug__"->d≠"__classdict__"->sc.lookup "sorted" = some .globalImplicit->SE c sc (.sortedGet d pf pd pd2 pa pk p)):aD c:=⟨hd,yP G,hs,hg⟩
open PySem.Challenge
noncomputable def mU:List Obj->BT->Nat->Option BT
 | [],t,_=>some t
 | o::l,t,n=>cond ((t.ins n o).get n).isSome (mU l (t.ins n o) (n+1)) none
theorem im{α:Type}{c:Bool}{x:Option α}{b:α}(h:cond c x none=some b):c=true/\x=some b:=by
 cases c with
 | true=>exact ⟨rfl,h⟩
 | false=>exact (Eh _ h.symm).elim
theorem vj{life:Life}{l:List Obj}:∀{t t':BT} {n:Nat},mU l t n=some t'->absHeap t' (n+l.length) life=⟨(absHeap t n life).objs ++ l.toArray,life⟩:=by
 induction l with
 | nil=>exact λ{t t' n} h=>by rw [← DN h];show absHeap t n life=⟨_ ++ #[],life⟩;rw [Array.append_empty];rfl
 | cons o l ih=>
  intro t t' n h;have q:=im (show cond ((t.ins n o).get n).isSome (mU l (t.ins n o) (n+1)) none=some t' from h);rw [Gn,show n+(l.length+1)=n+1+l.length from (Ih n l.length).symm,ih q.2,absHeap_ins q.1];show M0 ((absHeap t n life).objs.push o ++ l.toArray) life=_;rw [Array.push_eq_append,Array.append_assoc];exact congrArg (λa=>M0 (_ ++ a) life) (List.append_toArray [o] l)
noncomputable def toT(s:DA):Option JR:=(mU s.heap.objs.toList .nil 0).map λt=>⟨t,s.heap.objs.toList.length,s.heap.life,s.gens,s.drawn,s.toks,s.os⟩
theorem AE{s:DA}{x:JR}(h:toT s=some x):x.abs=s:=(Ew.mp h).elim λt q=>by
 have:=vj (life:=s.heap.life) q.1;rw [FK] at this;rw [← q.2];show Shared.mk (absHeap t s.heap.objs.toList.length s.heap.life) _ _ _ _=s;rw [this];show Shared.mk (M0 (#[] ++ s.heap.objs.toList.toArray) s.heap.life) _ _ _ _=s;rw [Array.empty_append]
noncomputable def kC{α β:Type}:Option α->(α->Option β)->Option β
 | some a,f=>f a
 | none,_=>none
theorem gr{α β:Type}{o:Option α}{f:α->Option β}{b:β}(h:kC o f=some b):∃a,o=some a/\f a=some b:=by
 cases o with
 | some a=>exact ⟨a,rfl,h⟩
 | none=>exact (Eh _ h.symm).elim
noncomputable def vk(step':JR->ME->Option (JR×ME))(ok:ME->Bool):Nat->JR->ME->Option JR
 | 0,_,_=>none
 | n+1,s,t=>match through t with
  | true=>some s
  | false=>cond (ok t) (kC (step' s t) λr=>vk step' ok n r.1 r.2) none
theorem AF{tb:String->Option FO}{p:Fc}{w:Fs}{n₀:Nat}{ann:Option DF}{n:Nat}:∀{s s':JR} {t:ME},vk (stepT (denote tb) p w) (stepOk n₀ ann) n s t=some s'->topRun tb p w n₀ ann n s.abs t=some s'.abs:=by
 induction n with
 | zero=>exact λ{s s' t} h=>(Eh _ h.symm).elim
 | succ n ih=>
  intro s s' t h;have h:(match through t with | true=>some s | false=>cond (stepOk n₀ ann t) (kC (stepT (denote tb) p w s t) λr=>vk (stepT (denote tb) p w) (stepOk n₀ ann) n r.1 r.2) none)=some s':=h;unfold topRun;cases he:through t with
  | true=>rw [he] at h;exact congrArg (λx:JR=>some x.abs) (DN h)
  | false=>
   rw [he] at h;have q:=im h;refine (gr q.2).elim λr q'=>?_;rw [q.1];dsimp only;rw [stepT_spec q'.1];exact ih q'.2
noncomputable def vl(tb:String->Option FO)(p:Fc)(w:Fs)(N:Nat):Option DA:=
 kC ((importEnds tb (opening p) w N (start (opening p)).1 (start (opening p)).2).bind (fenceModules? p)) λs₀=>
  cond (s₀.heap.isNs mainGlobals && s₀.gens.size == 0) (kC (toT s₀) λx=>kC (vk (stepT (denote tb) p w) (stepOk s₀.heap.objs.size (s₀.heap.nsMap mainGlobals (Dy "__annotations__"))) N x (topStub p)) λx₁=>
   cond (staticsOk (importedModules p.main.body) s₀.heap x₁.abs.heap && namesBound p x₁.abs.heap && gensDone x₁.abs && laidKept s₀.heap x₁.abs.heap) (some x₁.abs) none) none
theorem yQ{tb:String->Option FO}{p:Fc}{w:Fs}{N:Nat}{s:DA}(h:vl tb p w N=some s):openEnds tb p w N=some s:=by
 refine (gr h).elim λs₀ q=>?_;have q1:=im q.2;refine (gr q1.2).elim λx q2=>(gr q2.2).elim λx₁ q3=>?_;have q4:=im q3.2;have e3:=AF q3.1;rw [AE q2.1] at e3;unfold openEnds fencedOpening;rw [q.1];show topFrom tb p w N s₀=some s;unfold topFrom;rw [q1.1,e3];show (match staticsOk (importedModules p.main.body) s₀.heap x₁.abs.heap && namesBound p x₁.abs.heap && gensDone x₁.abs && laidKept s₀.heap x₁.abs.heap with | true=>some x₁.abs | false=>none)=some s;rw [q4.1];exact q4.2
theorem AG{p q:Fc}{loose:List Str}{Xt:DA->Bool}{α:Type}{Yf:DA->α}{N:Nat}{g0:Bool}{w:Fs}{R:_×α}
 (h:(vl treeTable p w N).map (λs=>(openSeen q loose (importedModules p.main.body) Xt g0 s,Yf s))=some R):(openEnds treeTable p w N).map (λs=>(openSeen q loose (importedModules p.main.body) Xt g0 s,Yf s))=some R:=
 (Ew.mp h).elim λs e=>by rw [yQ e.1];exact congrArg some e.2
noncomputable def vn:DF->Option Ep
 | .ref a=>some a
 | _=>none
noncomputable def Cg:DF->Option String
 | .builtin a=>some a
 | _=>none
noncomputable def zA:DF->Option String
 | .type a=>some a
 | _=>none
noncomputable def yR:DF->Option Str
 | .str a _=>some a
 | _=>none
theorem no{α:Type}{a:α}{P:Prop}(h:none=some a):P:=(Eh _ h.symm).elim
theorem nR{v:DF}{a:Ep}(h:vn v=some a):v=.ref a:=by
 cases v with
 | ref b=>exact congrArg _ (DN h)
 | _=>exact no h
theorem xt{v:DF}{a:String}(h:Cg v=some a):v=.builtin a:=by
 cases v with
 | builtin b=>exact congrArg _ (DN h)
 | _=>exact no h
theorem rE{v:DF}{a:String}(h:zA v=some a):v=.type a:=by
 cases v with
 | type b=>exact congrArg _ (DN h)
 | _=>exact no h
theorem tL{v:DF}{a:Str}(h:yR v=some a):∃t,v=.str a t:=by
 cases v with
 | str b t=>exact ⟨t,congrArg (Lv · t) (DN h)⟩
 | _=>exact no h
theorem bJ{a b:Bool}{P:Prop}(h:(a && b)=true)(k:a=true->b=true->P):P:=k (DP.mp h).1 (DP.mp h).2
noncomputable def tM{α:Type}[DecidableEq α](o:Option α)(a:α):Bool:=o.any λx=>decide (x=a)
theorem cI{α:Type}{o:Option α}{p:α->Bool}(e:o.any p=true):∃x,o=some x/\p x=true:=by
 cases o with
 | none=>exact absurd e DY
 | some x=>exact ⟨x,rfl,e⟩
theorem j1{α:Type}[DecidableEq α]{o:Option α}{a:α}(h:tM o a=true):o=some a:=(cI h).elim λx q=>q.1.trans (congrArg some (of_decide_eq_true q.2))
noncomputable def nS(e:EB):Bool:=(yR e.key).isSome
theorem tN{h:EI}{a:Ep}{o:Obj}{es:Array EB}{ep:Nat}(e:h.get? a=some o)(ed:o.data=.dict es ep)(hs:es.toList.all nS=true):h.Ns a (nsFind es):=
 ⟨o,es,ep,e,ed,λx hx=>(FJ.mp (Et.mp hs x (Fu.mpr hx))).elim λn q=>⟨n,tL q⟩,λ_=>rfl⟩
noncomputable def yS(v u:DF):Bool:=(vn u).any (λb=>tM (vn v) b) || ((Cg u).any (λb=>tM (Cg v) b) || (zA u).any λb=>tM (zA v) b)
theorem tO{a b:DF}(h:yS a b=true):a=b:=
 (Gi.mp h).elim (λh=>(cI h).elim λx q=>(nR (j1 q.2)).trans (nR q.1).symm) λh=>
  (Gi.mp h).elim (λh=>(cI h).elim λx q=>(xt (j1 q.2)).trans (xt q.1).symm) λh=>(cI h).elim λx q=>(rE (j1 q.2)).trans (rE q.1).symm
noncomputable def j2(a b:Option DF):Bool:=a.isNone && b.isNone || a.any λv=>b.any (yS v)
theorem ef{a b:Option DF}(h:j2 a b=true):a=b:=
 (Gi.mp h).elim (λh=>bJ h λx y=>(ER.mp x).trans (ER.mp y).symm) λh=>(cI h).elim λv q=>(cI q.2).elim λu q'=>q.1.trans ((congrArg some (tO q'.2)).trans q'.1.symm)
noncomputable def vo(v:DF)(t:String):Bool:=tM (zA v) t
theorem nT{v:DF}{t:String}(h:vo v t=true):v=.type t:=rE (j1 h)
noncomputable def Ci(es:Array EB)(cl:Cl):Bool:=
 j2 (nsFind es (Dy "__getattribute__")) none && (j2 (nsFind es (Dy "__getattr__")) none && (j2 (nsFind es (Dy "__setattr__")) none && (j2 (nsFind es (Dy "__init__")) (some (.ref cl.init.addr)) &&
  ((cl.meths.all λx=>j2 (nsFind es (Dy x.1)) (some (.ref x.2.addr))) && cl.attrs.all λa=>j2 (nsFind es (Dy a)) none))))
theorem fH{β:Type}{x:String}{v:β}{l:List (String×β)}(h:l.lookup x=some v):(x,v)∈l:=by
 induction l with
 | nil=>exact no h
 | cons y r ih=>
  have h:(match x == y.1 with | true=>some y.2 | false=>r.lookup x)=some v:=h;cases e:x == y.1 with
  | true=>rw [e] at h;rw [← DN h,IX e];exact .head _
  | false=>rw [e] at h;exact .tail _ (ih h)
section
variable {h h':EI}
noncomputable def zB:MX->Option (Array EB)
 | .dict es _=>some es
 | _=>none
theorem yT{d:MX}{es:Array EB}(h:zB d=some es):∃n,d=.dict es n:=by
 cases d with
 | dict b n=>exact ⟨n,congrArg (Data.dict · n) (DN h)⟩
 | _=>exact no h
noncomputable def vp(h:EI)(a:Ep):Option (Array EB):=(h.get? a).bind λo=>zB o.data
theorem rF{a:Ep}{es:Array EB}(e:vp h a=some es):∃o ep,h.get? a=some o/\o.data=.dict es ep:=(FM.mp e).imp λo q=>(yT q.2).imp λn q'=>⟨q.1,q'⟩
noncomputable def zC:MX->Option ClassData
 | .cls c=>some c
 | _=>none
theorem yU{d:MX}{c:ClassData}(e:zC d=some c):d=.cls c:=by
 cases d with
 | cls b=>exact congrArg _ (DN e)
 | _=>exact no e
noncomputable def zD:MX->Option MT
 | .func c=>some c
 | _=>none
theorem yV{d:MX}{c:MT}(e:zD d=some c):d=.func c:=by
 cases d with
 | func b=>exact congrArg _ (DN e)
 | _=>exact no e
noncomputable def zE:MX->Option (Array DF)
 | .fields c=>some c
 | _=>none
theorem yW{d:MX}{c:Array DF}(e:zE d=some c):d=.fields c:=by
 cases d with
 | fields b=>exact congrArg _ (DN e)
 | _=>exact no e
theorem xu{o:Obj}{a:DF}{b:Option Ep}{c:MX}{d:Array (Option DF)}(h1:o.cls=a)(h2:o.dict=b)(h3:o.data=c)(h4:o.slots=d):o=⟨a,b,c,d⟩:=by rw [← h1,← h2,← h3,← h4]
noncomputable def Cj:List DF->Ep->Bool
 | [x,y],a=>yS x (.ref a) && vo y "object"
 | _,_=>false
theorem AH{l:List DF}{a:Ep}(e:Cj l a=true):l=[.ref a,.type "object"]:=by
 cases l with
 | nil=>exact absurd e DY
 | cons x l=>cases l with
  | nil=>exact absurd e DY
  | cons y l=>cases l with
   | nil=>exact bJ e λh1 h2=>by rw [tO h1,nT h2]
   | cons z l=>exact absurd e DY
noncomputable def C9(l:Array (Option DF)):Bool:=Hy l.size 6 && j2 (l.getD 4 none) (some (.builtin "object.__new__"))
@[elab_as_elim] theorem iV{α:Type}{P:List α->Prop}{l:List α}{n:Nat}(h:l.length=n+1)(k:∀a t,t.length=n->P (a::t)):P l:=by
 cases l with
 | nil=>exact nomatch h
 | cons a t=>exact k a t (Gj h)
theorem Ck{l:Array (Option DF)}(e:C9 l=true):∃k0 k1 k2 k3 k5,l=#[k0,k1,k2,k3,some (.builtin "object.__new__"),k5]:=bJ e λh1 h2=>by
 cases l with
 | mk l=>
  have h1:l.length=6:=GZ h1;clear e;revert h2;refine iV h1 λa0 t h=>?_;refine iV h λa1 t h=>iV h λa2 t h=>iV h λa3 t h=>iV h λa4 t h=>iV h λa5 t h=>?_;rw [Fe h];exact λh2=>⟨a0,a1,a2,a3,a5,congrArg (λx=>#[a0,a1,a2,a3,x,a5]) (ef h2)⟩
noncomputable def Cm(h:EI)(cl:Cl):Bool:=(h.get? cl.addr).any λo=>vo o.cls "type" && (C9 o.slots && (zC o.data).any λc=>Cj c.mro cl.addr && (c.hasDict && (!c.abstract && (!c.hasDel &&
 (vp h c.ns).any λes=>es.toList.all nS && Ci es cl))))
theorem vq{b:Bool}(h:(!b)=true):b=false:=by
 cases b with
 | false=>rfl
 | true=>exact absurd h DY
theorem AI{cl:Cl}(e:Cm h cl=true):lT h cl:=
 (cI e).elim λo q=>bJ q.2 λe1 e=>bJ e λe2 e=>(cI e).elim λc q2=>bJ q2.2 λe3 e=>bJ e λe4 e=>bJ e λe5 e=>bJ e λe6 e=>(cI e).elim λes q3=>(rF q3.1).elim λo' g=>g.elim λep g=>
  bJ q3.2 λe7 e9=>(Ck e2).elim λk0 g1=>g1.elim λk1 g1=>g1.elim λk2 g1=>g1.elim λk3 g1=>g1.elim λk5 g1=>by
   have hd:=yU q2.1;have ho:=q.1.trans (congrArg some (xu (nT e1) rfl hd g1));have m3:=AH e3;have b5:=vq e5;have b6:=vq e6;revert ho m3 e4 b5 b6 g;clear e3 e5 e6 hd q2 q3;cases c;dsimp only;intro e4 g ho m3 b5 b6;rw [m3,e4,b5,b6] at ho;exact bJ e9 λc1 e=>bJ e λc2 e=>bJ e λc3 e=>bJ e λc4 e=>bJ e λc5 c6=>
    ⟨_,_,_,_,_,_,_,_,k0,k1,k2,k3,k5,nsFind es,ho,tN g.1 g.2 e7,ef c1,ef c2,ef c3,ef c4,λm f hm=>ef (Et.mp c5 (m,f) (fH hm)),λa ha=>ef (Et.mp c6 a ha)⟩
noncomputable def zF(h:EI)(cd:DF)(q:Str):Bool:=(vn cd).any λc=>(h.get? c).any λo=>(zE o.data).any λvs=>(vs[1]?).any λv=>tM (yR v) q
theorem yX{cd:DF}{q:Str}(e:zF h cd q=true):h.CodeRec cd q:=
 (cI e).elim λc e=>(cI e.2).elim λo e2=>(cI e2.2).elim λvs e3=>(cI e3.2).elim λv e4=>(tL (j1 e4.2)).elim λt e5=>⟨_,_,_,_,nR e.1,e2.1,yW e3.1,e4.1.trans (congrArg some e5)⟩
noncomputable def zG:M1->Bool
 | .function=>true
 | _=>false
theorem yY{k:M1}(e:zG k=true):k=.function:=by
 cases k with
 | function=>rfl
 | _=>exact absurd e DY
noncomputable def zH:DF->Bool
 | .none=>true
 | _=>false
theorem yZ{k:DF}(e:zH k=true):k=.none:=by
 cases k with
 | none=>rfl
 | _=>exact absurd e DY
noncomputable def Da(h:EI)(f:Fn):Option (FuncBody×List (Str×Hb)×List Str×Bool):=(h.get? f.addr).bind λo=>(zD o.data).map λd=>(d.body,d.scope.names,d.params.args.map (·.arg),
 vo o.cls "function" && (o.dict.isNone && (Hy o.slots.size 0 && (zG d.scope.kind && (!d.scope.isGenerator && (!d.scope.isCoroutine && (Hy d.globals mainGlobals && (Hy d.builtins builtinsNs && (d.closure.isEmpty &&
 (d.params.posonlyargs.isEmpty && (d.params.vararg.isNone && (d.params.kwonlyargs.isEmpty && (d.params.kwarg.isNone && (zH d.defaults && zF h d.code d.qualname))))))))))))))
theorem Cn{f:Fn}(e:Da h f=some (.stmts (dk f).py,f.sco.map (λx=>(Dy x.1,x.2)),f.params.map Dy,true)):tV h f.addr f.params f.sco (dk f):=
 (FM.mp e).elim λo q=>(Ew.mp q.2).elim λd q2=>
  have e1:=E0 q2.2;have e2:=E0 e1.2;have e3:=E0 e2.2
  bJ e3.2 λc1 e=>bJ e λa1 e=>bJ e λa2 e=>bJ e λc2 e=>bJ e λc3 e=>bJ e λc4 e=>bJ e λc5 e=>bJ e λc6 e=>bJ e λc7 e=>bJ e λc8 e=>bJ e λc9 e=>bJ e λc10 e=>bJ e λc11 e=>bJ e λc12 c13=>
   ⟨d,q.1.trans (congrArg some (xu (nT c1) (ER.mp a1) (yV q2.1) (Array.size_eq_zero_iff.mp (GZ a2)))),e1.1,yY c2,e2.1,vq c3,vq c4,GZ c5,GZ c6,Iu.mp c7,Iu.mp c8,e3.1,
    ER.mp c9,Iu.mp c10,ER.mp c11,yZ c12,yX c13⟩
noncomputable def AJ(es:Array EB):Bool:=fi.all λx=>j2 (nsFind es (Dy x.1)) (some x.2) || (j2 (nsFind es (Dy x.1)) none && j2 (bootBuiltins (Dy x.1)) (some x.2))
noncomputable def xv(h:EI):Prop:=∃mg,h.Ns mainGlobals mg/\∀x v,fi.lookup x=some v->mg (Dy x)=some v\/(mg (Dy x)=none/\bootBuiltins (Dy x)=some v)
noncomputable def Dc(h:EI):Bool:=(vp h mainGlobals).any λes=>es.toList.all nS && AJ es
theorem Co(e:Dc h=true):xv h:=
 (cI e).elim λes q=>(rF q.1).elim λo g=>g.elim λep g=>bJ q.2 λh3 h4=>⟨_,tN g.1 g.2 h3,λx v hx=>
  (Gi.mp (Et.mp h4 (x,v) (fH hx))).imp ef λh=>bJ h λa b=>⟨ef a,ef b⟩⟩
theorem xw(f:Fn):f∈pE:=DO.mpr ⟨_,D3.mpr f.idx_lt,Fn.ofNat_ctorIdx f⟩
noncomputable def zI:List Cl:=[.heap,.bank,.unions,.keeper,.consts]
theorem xx(f:Cl):f∈zI:=by
 cases f with
 | heap=>exact .head _
 | bank=>exact .tail _ (.head _)
 | unions=>exact .tail _ (.tail _ (.head _))
 | keeper=>exact .tail _ (.tail _ (.tail _ (.head _)))
 | consts=>exact .tail _ (.tail _ (.tail _ (.tail _ (.head _))))
noncomputable def Cp(h:EI):Prop:=(∀f:Fn,tV h f.addr f.params f.sco (dk f))/\(∀cl:Cl,lT h cl)/\xv h
theorem Cq{α β:Type}{f g:α->β}{a:α}{l:List α}(e:l.map f=l.map g)(h:a∈l):f a=g a:=by
 induction l with
 | nil=>exact absurd h DX
 | cons b l ih=>exact (D5.mp h).elim (λq=>q▸(ES e).1) (ih (ES e).2)
noncomputable def hook:Hook where
 α:=List (Option (FuncBody×List (Str×Hb)×List Str×Bool))×Bool
 obs s:=(pE.map (Da s.heap),zI.all (Cm s.heap) && Dc s.heap)
 val _:=(pE.map λf=>some (.stmts (dk f).py,f.sco.map (λx=>(Dy x.1,x.2)),f.params.map Dy,true),true)
 says _ h:=Cp h
 of w s e:=by
  exact bJ (E0 e).2 λa b=>⟨λf=>Cn (Cq (E0 e).1 (xw f)),λcl=>AI (Et.mp a cl (xx cl)),Co b⟩
 keeps w h h' g k:=by
  obtain ⟨g1,g2,mg,g3,g4⟩:=g;refine ⟨λf=>?_,λcl=>?_,mg,g3.keeps k,g4⟩
  · obtain ⟨fd,e,e1,e2,e3,e4,e5,e6,e7,e8,e9,e10,e11,e12,e13,e14,e15⟩:=g1 f;exact ⟨fd,k _ _ e,e1,e2,e3,e4,e5,e6,e7,e8,e9,e10,e11,e12,e13,e14,e15.keeps k⟩
  · obtain ⟨nm,q,N,bs,sn,sub,col,dd,k0,k1,k2,k3,k5,mN,e1,e2,r1,r2,r3,r4,r5,r6⟩:=g2 cl;exact ⟨nm,q,N,bs,sn,sub,col,dd,k0,k1,k2,k3,k5,mN,k _ _ e1,e2.keeps k,r1,r2,r3,r4,r5,r6⟩
end
noncomputable def q0:Fc:={pw_pq0072_02 with main:={pw_pq0072_02.main with body:=[0,2,3,4,6,7,9,10,11,13,15,17,18,19,20,21,22,23,24].filterMap λi=>pw_pq0072_02.main.body[i]?}}
theorem C3:LeftO pw_pq0072_02 q0 [] (λs=>xlAt q0 [] s && recOk (RowW.records (OpenRow.toRowW rw_pq0072_02.row)) s) (Hook.obs hook) (Hook.val hook) 7064:=by
 intro w;refine AG ?_;unfold vl;rw [PySem.W.Fast.te4187177175401517315,PySem.W.Fast.te14364793385576792824,PySem.W.Fast.te5923862056798008813,PySem.W.Fast.te10274390034422433532,PySem.W.Fast.te14289696077712309145,PySem.W.Fast.te10156331382660048174,PySem.W.Fast.te11892475500146522536,PySem.W.Fast.te6613529449190102663,PySem.W.Fast.te8920871248978507458];kernel_rfl
theorem C4:rw_pq0072_02.wellSaid=true:=by
 rw [PySem.W.Fast.te9446332074065402090];kernel_rfl
set_option backward.match.sparseCases true
theorem vr{L:ao}{h:EI}{vs:List DF}{ns:List Int}(e:G4 vs ns):ag L h (ns.map PV.int) vs:=by
 induction e with
 | nil=>exact ag.nil
 | cons n t r ih=>exact ag.cons (x:=.int n) ⟨t,rfl⟩ ih
def vt(w:Fs)(s₁:DA):Cx:=⟨PySem.Challenge.rw_pq0072_02.row.prog,w,s₁.heap,s₁.gens,s₁.os⟩
theorem AK{M:HK}{h:EI}{cl:Cl}(C:lT h cl):Looks M h (keeperOf (.ref cl.addr)) PySem.Keeper.machine:=by
 obtain ⟨nm,q,N,bs,sn,sub,col,dd,k0,k1,k2,k3,k5,mN,e,_⟩:=C;unfold keeperOf;refine (Looks.ld e).andThen ?_;have f:typeLookup (.type "type") (Dy "__call__")=pure (some (.builtin "type.__call__")):=by rw [Fz,EN];kernel_rfl
 unfold specialOf;refine Ms (a:=some (.builtin "type.__call__")) (Ms (a:=HG "type") ?_ (Jz f)) (Jz rfl);unfold typeOf;exact (Looks.ld e).andThen (Jz rfl)
theorem C5{w:Fs}{s₁:DA}{p:Fc}{loose:List Str}{mean:ExcName->Option DF}{mg mb:Str->Option DF}(GG:Cp s₁.heap)(T:Top p loose mean mg mb s₁.heap)(hi:importsNone p=true):Gd (vt w s₁) where
 lim:=T.nolimit
 mods:=by
  obtain ⟨mm,⟨o,es,ep,ho,_⟩,_⟩:=(T.seer hi).mods;exact ⟨o,ho⟩
 fns:=GG.1
 cls:=GG.2.1
 keep cl:=⟨_,.inr (.inl rfl),AK (GG.2.1 cl)⟩
 glob:=by
  refine aN GG.2.2 λmg' n h=>?_;refine ⟨mg',mb,n,T.b,λx v hx=>(h x v hx).imp id λq=>⟨q.1,?_⟩⟩;rw [T.builtins]
  · exact q.2
  · intro e;have e:x = "__name__":=Str.ofString_inj.mp e;have hm:=fH hx;have hall:fi.all (λy=>y.1 != "__name__")=true:=by decide +kernel
    rw [Et] at hall;have:=hall _ hm;rw [e] at this;simp at this
def j3(a:Ep):ao:=⟨λ_=>a,λb=>if b=a then some (.loc 0) else none⟩
def xy(l:List PV):aa:=λp=>if p=.loc 0 then some (.froz l) else none
theorem pN{x a b:Str}{u v n:Nat}(h:[(a,u),(b,v)].lookup x=some n):(x=a/\n=u)\/(x=b/\n=v):=by
 rw [ET] at h;cases e:x == a with
 | true=>rw [e] at h;exact .inl ⟨IX e,(DN h).symm⟩
 | false=>
  rw [e] at h
  replace h:IF x [(b,v)]=some n:=h
  rw [ET] at h;cases e:x == b with
  | true=>rw [e] at h;exact .inr ⟨IX e,(DN h).symm⟩
  | false=>rw [e] at h;cases h
theorem vu{α:Type}{p:Prop}[Decidable p]{a b:α}(h:(if p then some a else none)=some b):p/\a=b:=by
 by_cases e:p
 · rw [if_pos e] at h;exact ⟨e,DN h⟩
 · rw [if_neg e] at h;cases h
theorem Cr{c:Cx}{s:DA}{a:Ep}{vs:List DF}{ns:List Int}(kp:∀b o,c.h₀.get? b=some o->s.heap.get? b=some o)(hz:c.h₀.objs.size<=s.heap.objs.size)(hg:s.gens=c.gens)(ho:s.os=c.os)(hL:c.h₀.IsList a vs.toArray)(hI:G4 vs ns):Wd c s (xy (ns.map .int)) (j3 a):=
 aN hL λoo h1 r=>{
  keep:=kp
  size0:=hz
  gens:=hg
  os:=ho
  old:=λb o hb=>by
   by_cases e:b=a
   · exact .inr ⟨.loc 0,_,if_pos e,if_pos rfl⟩
   · exact .inl (if_neg e)
  fresh:=λb hb=>if_neg (c:=b=a) λe=>absurd (Ec h1) (E2.mpr (DM hz (e▸hb)))
  live:=λq=>⟨λh=>h.elim λo h=>by have:=(vu h).1;subst this;exact if_pos rfl,λh=>⟨_,if_pos (DN ((if_pos rfl).symm.trans h)).symm⟩⟩
  objs:=λq o hq=>by
   have e:=vu hq;rw [e.1,← e.2];exact ⟨vs.toArray,⟨oo,kp _ _ h1,r⟩,vr hI⟩
  fin:=⟨1,λn hn=>if_neg (c:=al.loc n=.loc 0) λe=>by injection e with e;subst e;exact absurd hn (by decide)⟩}
theorem Cs{c:Cx}{s:DA}{a u v:Ep}{env:Env}{m:Str->Option DF}(hk:env.scope.kind=.function)(hn:env.scope.names=jn.map λx=>(Dy x.1,x.2))(hg:env.globals=mainGlobals)(hb:env.builtins=builtinsNs)(hm:s.heap.Ns env.locals m)(hs:m (Dy "script")=some (.ref a))
 (hc:env.cells=[(Dy "elder",u),(Dy "keeper",v)]) (huv:u≠v) (hu:fh c s (j3 a) u) (hv:fh c s (j3 a) v) (hlo:(j3 a).own env.locals=none) (ho:c.h₀.get? env.locals=none):ax c env jn s (j3 a) (λx=>if x = "script" then some (.ref (.loc 0)) else none) where
 kind:=hk
 names:=hn
 glob:=hg
 bi:=hb
 loc:=⟨m,hm,λx v hx _=>by
  have e:=vu hx;rw [e.1,← e.2];exact ⟨_,hs,And.intro rfl (if_pos rfl)⟩⟩
 cel:=λx v hx hn=>absurd ((vu hx).1▸rfl) hn
 cells:=λx hx=>by
  rw [hc];have h:=Et.mp (show (jn.all λy=>decide (y.2≠.cell) || decide (y.1 = "keeper") || decide (y.1 = "elder"))=true by decide +kernel) _ (fH hx);rcases Gi.mp h with h | h
  · rcases Gi.mp h with h | h
    · exact absurd rfl (of_decide_eq_true h)
    · rw [show x = "keeper" from of_decide_eq_true h];exact hv.casesOn λ_ _ w q=>⟨v,w,rfl,q⟩
  · rw [show x = "elder" from of_decide_eq_true h];exact hu.casesOn λ_ _ w q=>⟨u,w,rfl,q⟩
 locown:=hlo
 locold:=ho
 cellown:=λx b hx=>by
  rw [hc] at hx;rcases pN hx with h | h
  · rw [h.2];exact hu
  · rw [h.2];exact hv
 cellinj:=λx y b hx hy=>by
  rw [hc] at hx hy;rcases pN hx with h | h
  · rcases pN hy with g | g
    · rw [h.1,g.1]
    · exact absurd (h.2.symm.trans g.2) huv
  · rcases pN hy with g | g
    · exact absurd (g.2.symm.trans h.2) huv
    · rw [h.1,g.1]
theorem finish(PG:∀c,Gd c->aD c){w:Fs}{s₁:DA}{p:Fc}{loose:List Str}{mean mean':ExcName->Option DF}{mg mb:Str->Option DF}{cl:Str->Option Ep}(GG:Cp s₁.heap)(T:Top p loose mean mg mb s₁.heap)(hi:importsNone p=true)(hg:s₁.gens=#[])
 {a fa:Ep} {vs:List DF} {ns:List Int} (hL:s₁.heap.IsList a vs.toArray) (hI:G4 vs ns) (hlen:¬(63:Int) < ns.length) {h₁:EI} {tk:Nat} {m:Str->Option DF} (F:Fr s₁.heap s₁.heap.objs.size h₁ m) (hm:m (Dy "script")=some (.ref a))
 {o1 o0:Obj} {v1 v0:Option DF} (N0:News s₁.heap s₁.heap.objs.size h₁ [(s₁.heap.objs.size+1+1,o1),(s₁.heap.objs.size+1,o0)]) (c1:o1.data=.cell v1) (c0:o0.data=.cell v0) {name:Str} {scope:Scope} {cd:DF} (hk:scope.kind=.function) (hs:scope.names=jn.map λx=>(Dy x.1,x.2))
 {body:List Stmt} (hbody:body=ll.py) {args:List WData} (hr:∀cls,PySem.Challenge.rw_pq0072_02.row.claim.raises args cls=false) (hp:PySem.Challenge.rw_pq0072_02.row.claim.post args (.bool true) args=true) {E':DF->DA->Prop} :
 wpAny (model PySem.Challenge.rw_pq0072_02.row.prog w) (callerA.deeper (envOfC name scope s₁.heap.objs.size fa cd)) (execs body (envOfC name scope s₁.heap.objs.size fa cd))
  (λf s'=>GoodW PySem.Challenge.rw_pq0072_02.row.claim cl mean' args s₁ (Except.ok (Flow.ret (match f with | Flow.ret v=>v | _=>Gz))) s') E' {heap:=h₁,gens:=s₁.gens,drawn:=s₁.drawn,toks:=tk,os:=s₁.os}:=by
 have G:=C5 (w:=w) GG T hi;have P:=PG _ G;have hal:a < s₁.heap.objs.size:=hL.elim λo h=>Ec h.1;refine cj (N0 (s₁.heap.objs.size+1+1,o1) (.head _)) λn1a n1b n1c=>cj (N0 (s₁.heap.objs.size+1,o0) (.tail _ (.head _))) λn0a n0b n0c=>?_;have W:=Cr (c:=vt w s₁) (s:={heap:=h₁,gens:=s₁.gens,drawn:=s₁.drawn,toks:=tk,os:=s₁.os}) F.keep (D9 F.ns.lt) rfl rfl hL hI;have FR:=Cs (c:=vt w s₁) (s:={heap:=h₁,gens:=s₁.gens,drawn:=s₁.drawn,toks:=tk,os:=s₁.os}) (env:=envOfC name scope s₁.heap.objs.size fa cd) hk hs rfl rfl F.ns hm (by unfold envOfC;simp only [hs];rfl) (Lw _) ⟨if_neg (D1 (En (En hal))).symm,n1c,v1,o1,n1a,c1⟩ ⟨if_neg (D1 (En hal)).symm,n0c,v0,o0,n0a,c0⟩ (if_neg (D1 hal).symm) (by
  cases e:s₁.heap.get? s₁.heap.objs.size with
  | none=>exact e
  | some o=>exact absurd (Ec e) (Fi _))
 have hR:bl 30 (callerA.deeper (envOfC name scope s₁.heap.objs.size fa cd)):=⟨rfl,by show callerA.depth+1+30+5 < recursionLimit;decide +kernel,by show callerA.units+3+8*30+60 < cLine;decide +kernel⟩;have hw:=BX (c:=vt w s₁) G P (σ:=xy (ns.map .int)) (s0:=0) (script:=ns) (if_pos rfl) (by omega) (λp hp=>if_neg (c:=p=.loc 0) λe=>by rw [e] at hp;exact EU hp) (ρ:=λx=>if x = "script" then some (.ref (.loc 0)) else none) (if_pos rfl) (Qn:=λ_ _=>False) (Qr:=λv _=>v=.bool true) λ_=>rfl;subst hbody;refine DU (ft G P ll jn (by decide +kernel) _ _ _ _ _ _ 30 _ _ hR W FR hw) (λf s' hf=>?_) λ_ _ h=>h.elim;cases f with
 | next=>
  exact hf.casesOn λ_ _ _ _ _ _ _ h=>h.elim
 | ret v=>
  refine iX hf λV σ' L' W' _ hv hV=>?_;subst hV;subst hv;exact ⟨.inl ⟨_,.bool true,[],rfl,hr,.bool true,hp,unshared_nil⟩,W'.keep,W'.os,W'.gens.trans hg⟩
 | _=>exact hf.elim
set_option backward.match.sparseCases false
theorem main_of:rw_pq0072_02.Holds:=by
 refine holds_law C4 λsaid=>?_;refine W.holds_open (q:=q0) (loose:=[]) (Xt:=λs=>xlAt q0 [] s && recOk (RowW.records (OpenRow.toRowW rw_pq0072_02.row)) s) (XP:=XL q0 []) (Yf:=Hook.obs hook) (Ya:=Hook.val hook) (YP:=Hook.says hook) (N:=7064) C3 (Hook.of hook) (Hook.keeps hook) (λs e=>xl_of s (DP.mp e).1) XL.keeps (by rfl) (by rfl) (by rfl) (λs e=>recFacts_of (DP.mp e).2) (by rfl) said (by decide +kernel) ⟨rfl,rfl,rfl,rfl,rfl,by decide +kernel⟩ ?hw ?hc;case hw=>w_witness2
 intro w s₀ s₁ mg mb G Y fa o pm cd doc dV kV ho hd hcd hD hmg hg args vals as hpre hlay hrd hwl hlo;have X:=(Ground.X G).1;have V:=(Ground.X G).2;have GL:=glob_more (Ground.glob G (by decide +kernel) (by decide +kernel)) V;refine Ground.open G ?_;intro T B D TE TW;try (refine guard_noD D (by decide +kernel) ?_;clear D)
 obtain ⟨_,_,M⟩:=bmod_of_top T;have TA:=at_of_top T;try (obtain ⟨_,_,he,B0⟩:=based_of_top T rfl hmg ho hd;have he':cd=_:=he;subst he';clear he)
 clear hmg
 wrow_args hpre hlay hrd hwl hlo
 first | refine callC_kw (enter_call ?_) | refine enter_call ?_ | refine callC_kw (MY ?_) | refine MY ?_ | w_how
 w_top on
 try refine Hm ?_ (λ_ _ g=>GoodW.toG g)
 have K0:=below_caller (Top.heap T)
 w_call any ho hd hcd hD T F
 clear hd TA
 k_drop
 rename_i w1 w0 left right N0 X0;exact finish (λc G=>AD G yx (As G) (yE G)) Y (by assumption) (by decide +kernel) (by assumption) (by assumption) (by assumption) (by assumption) (by assumption) (by rfl) N0 left right (by rfl) (by rfl) (by kernel_rfl) (λ_=>by rfl) (by kernel_rfl)
end Mine
theorem PySem.Challenge.cw_pq0072_02_holds : PySem.Challenge.rw_pq0072_02.Holds :=
 Mine.main_of
