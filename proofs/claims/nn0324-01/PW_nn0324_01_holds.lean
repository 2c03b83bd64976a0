import PyProof.Rows.All
import Wide.All
import OpenK.AllK
import Wide.FinOn
import Lean
import PySem.Challenge.RW_nn0324_01
set_option Elab.async false
set_option maxRecDepth 100000
set_option linter.all false
set_option genSizeOf false
set_option tactic.hygienic false
set_option genInjectivity false
set_option genCtorIdx false
set_option backward.match.sparseCases false
open Option renaming some->DJ,bind->El,map_eq_some_iff->Eu,bind_eq_bind->ED,pure_def->F7,isSome_none->G0,isSome_some->G1,isSome_iff_exists->HO,map_some->KG,map->NE
open Eq renaming trans->DK,symm->Ot
open PySem renaming Str->DL,wpAny_bind->DM,wpAny_pure->DP,Shared->DQ,Value->DW,wpAny->D2,wpAny_holding->E0,wpAny_mono->Fm,wpAny_standAt->FQ,wpAny_rule->Gd,wpAny_call_entry->Gk,wpAny_dictEpoch->Gv,strKind->Gw,getMethod_builtin->Gx,wpAny_forIn_list->GK,assign->GO,mem_of_lookup->GV,wpAny_callSpecial?_slot->G5,wpAny_truthy_bool->Hd,wpAny_specialOf->Hn,truthy->Ht,isTrue->Hu,slot_dict_contains->Hy,wpAny_pyIter_tuple->HA,wpAny_Constant_int->HB,wpAny_Subscript_list_slice->HC,eqIsQuiet_byValue->HJ,wpAny_sequenceKey->HK,slot_dict_getitem->HL,wpAny_askSetting->H0,call_meets->Ib,wpAny_execs_nil->Im,wpAny_of_eq->IK,wpAny_loadName_local->IN,wpAny_loadName_cell->IX,wpAny_loadName_free->IY,wpAny_Assign_stores->IZ,hashStr->I9,intKind->Jd,filter_range'_cons->Jo,wpAny_call->Jr,wpAny_assign_Tuple->Jt,wpAny_dictEntries->JN,slot_dict_setitem->JP,slot_list_setitem->JQ,codeAny_mono->JT,beq_builtin_none->J7,wpAny_items_cons->J9,strKind_is->Ka,Fin->Kb,wpAny_execs_cons->Kc,noFill_list_add->Kv,codeAny_of_tree->Kz,wpAny_items_nil->KC,slicePick_upto'->KD,wpAny_loadPart->K2,isSubtype_type->K3,hashInt->Lk,wpAny_UnaryOp->LB,wpAny_notedAt->LH,rule->NW,eval->Of
open PySem.Str renaming ofString->DN,append->J0,length->OZ
open Nat renaming le_trans->DO,le_refl->DV,ne_of_lt->D4,le_add_right->D5,lt_of_lt_of_le->Ea,lt_succ_of_lt->Eg,lt_of_le_of_lt->Ek,zero_add->En,le_antisymm->Eo,ne_of_gt->Ep,lt_succ_self->EA,min_le_right->EE,sub_self->EH,le_of_lt->EK,mul_le_mul_left->ES,min_le_left->EV,le_of_not_lt->E6,succ_ne_self->Fb,not_lt->Fe,add_assoc->FO,le_of_lt_succ->FT,mod_two_eq_zero_or_one->F1,lt_irrefl->Gc,not_lt_of_le->Gh,testBit_lt_two_pow->Gs,zero_le->Gz,pow_le_pow_right->GB,lt_or_ge->GM,lt_of_le_of_ne->GZ,le_of_eq->G8,le_succ_of_le->Ha,testBit_eq_decide_div_mod_eq->Hb,beq->HG,and_le_right->HT,add_sub_cancel_left->HU,pow_succ->H8,min_eq_left->Ij,le_of_ble_eq_true->Io,add_add_add_comm->Iu,add_le_add->Iw,pow_pos->IF,eq_of_testBit_eq->IG,le_succ->IP,ble->IQ,add_le_add_left->IS,and_mod_two_pow->IU,lt_two_pow_self->IV,mul_assoc->I6,pos_of_ne_zero->Jj,eq_zero_or_pos->Jk,mod_lt->Jl,zero_mul->JC,lt_trans->JD,or_lt_two_pow->JE,mul_comm->JF,add_zero->JH,succ_le_of_lt->JI,testBit_succ->JY,mul_add->Ke,log2_lt->Kh,and_le_left->Kn,and_div_two->Ku,not_lt_zero->Kw,lt_one_iff->KS,succ_pos->L0,add_comm->L2,sub_zero->L8,one_mul->MN
open List renaming length_map->DR,getElem?_eq_some_iff->DS,mem_singleton->DT,length_append->DU,getElem?_map->DX,replicate_zero->DY,mem_append->DZ,replicate->D0,append_assoc->D1,length_cons->D6,mem_of_getElem?->D8,getElem?_append_right->D9,range->Ec,replicate_succ->Ee,take_length->Ef,getElem?_append_left->Eh,getD_eq_getElem?_getD->Ei,getElem?_eq_getElem->Em,mem_map->Es,length_nil->Et,length_singleton->Ex,getElem_mem->Ey,map_append->Ez,prefix_rfl->EB,append_nil->EC,set_cons_zero->EF,length_take->EG,length_filter_le->EI,getElem?_cons_zero->EL,mem_cons_of_mem->EM,getElem?_eq_none->EN,drop_eq_getElem_cons->EO,mem_cons->ER,not_mem_nil->EW,map_congr_left->EX,set_cons_succ->EZ,take_add_one->E1,mem_filter->E5,mem_range->E7,length_range->E8,prefix_append->E9,nodup_append->Fa,all_eq_true->Fc,lookup_cons->Fd,getElem?_range->Ff,mapM_cons->Fg,mem_cons_self->Fi,mem_append_right->Fj,flatMap_cons->Fo,map_cons->Fq,getElem?_set_self->Fu,mem_append_left->Fv,length_set->Fw,mem_of_mem_take->FC,all_cons->FD,getElem?_of_mem->FJ,take_append_drop->FM,filter_append->FN,flatMap_append->FR,ext_getElem?->FU,size_toArray->FV,nodup_cons->FY,getElem?_cons_succ->F0,foldl_cons->F4,getElem?_set_ne->F8,foldl_append->Ga,length_eq_zero_iff->Gb,findIdx?_eq_some_iff_findIdx_eq->Gf,mem_map_of_mem->Gg,forIn_nil->Gn,findIdx?_eq_some_iff_getElem->Go,filter_cons->Gp,range_succ->Gr,getElem?_take_of_lt->Gy,isEmpty_iff->GN,cons_ne_nil->GR,idxOf_lt_length_iff->GT,getElem_of_mem->GU,forIn_cons->GY,flatMap_nil->G2,mem_flatMap->G3,getElem?_replicate->G7,filter_eq_nil_iff->He,take_succ_eq_append_getElem->Hf,foldl_nil->Hh,getElem_inj->Hj,getElem?_inj->Hk,mem_filterMap->Hv,zip_cons_cons->HD,set_append_right->HE,any_eq_false->HH,lookup->HN,take_append_of_le_length->HP,drop_zero->HS,perm_middle->HV,pairwise_iff_getElem->H6,filter_nil->H7,count_append->H9,set_set->Ia,take_of_length_le->Ie,drop_eq_nil_of_le->Ii,nodup_nil->Ip,countP_cons->Iz,nodup_range->IB,findIdx?_eq_none_iff->IC,range'->II,range_eq_range'->IJ,take_zero->IR,filterMap_cons->I5,getElem_idxOf->I7,any_cons->Jc,lookup_append->Ju,mem_range'_1->JM,map_nil->JO,countP_eq_length->JX,countP_mono_left->JZ,isEmpty_nil->Kd,findIdx?_cons->Kf,length->Kg,count_singleton->Ko,count_replicate->Kp,replicate_succ'->Kq,filter_sublist->KQ,filter_eq_self->KR,pairwise_map->L1,filter_congr->L3,map_take->Ng,count->NG,Nodup->NI,map_set->Ou,getD->OL
open PySem.Heap renaming get?_push_of_some->D3,get?_push_size->Er,get?_update_self->EQ,SameBut->FE,lt_size->FF,size_push->F2,ExtBut->G6
open Option.some renaming injEq->D7,inj->EU
open Bool renaming and_eq_true->Eb,noConfusion->Ev,false_eq_true->EJ,not_true->ET,false_ne_true->EY,or_eq_true->E4,not_eq_true'->FH,or_eq_false_iff->GA,and_eq_true_iff->GD,not_false->ID,false_or->I8,false_and->K4,and_self->Lv,true_or->L4
open Or renaming inl->Ed,inr->Ew
open Array renaming length_toList->Ej,getElem?_eq_getElem->GQ,toList_append->Hr,size_append->HI,any_toList->HX,getElem?_eq_none->Ih,getElem?_toList->It,forIn_toList->Jn,toList_push->JR,size_push->Ky,mk->Qa
open PySem.Heap.SameBut renaming update->E3
open PySem.PyData renaming canLay0->Fh,eqv->Fy,canLayAll0->FW,keyHash->Gl,depth->Hc,eqvAll->HR,depthAll->Ik
open PySem.Builtin.Tuple renaming tupleHashOf->Fk,tupleItemsOf->KV
open Prod.mk renaming injEq->Fp
open PySem.W.Fast renaming te14082659384304107361->Fs,te14364793385576792824->Ft,te8920871248978507458->FB,te10880121769531294198->Je,te14722251495701143533->Jf,te10994771534591457954->Jg,te16090120013241838585->Jh,te11698064438423848299->Ji,te5160383126252970620->Jv,te2386780881361962483->Jw,te7317090234206586261->Jx,te7369524293546568484->Jy,te479339242167458305->JB
open PySem.F renaming called_set->Fz,plainAttrs_list->Gm,slot_list_extend->GW,slot_tuple_hash->G4,slot_list_iadd->Hg,args_list_extend_2->Hz,entry_list_extend->HF,slot_list_index->HW,slot_dict_get->Ir,slot_list_pop->Is
open ForInStep renaming yield->FK
open Int renaming natCast_nonneg->FL,ofNat_inj->FP,toNat_natCast->F9,not_lt_of_ge->GJ,ofNat_lt->G9,toNat_of_nonneg->Ho,natCast_eq_zero->Hq,fdiv_eq_ediv_of_nonneg->Hx,lt_of_not_ge->HY,eq_ofNat_of_zero_le->HZ,add_one_le_of_lt->Ix,lt_iff_le_and_ne->Iy,sub_nonneg_of_le->IE,ofNat_ne_zero->JG,le_of_lt->JK,natCast_add->Kr,add_assoc->Li
open List.cons renaming injEq->FX
open PySem.Challenge renaming rw_nn0324_01->FZ
open List.Perm renaming append_left->F5,trans->Kt,refl->KP
open Classical renaming byContradiction->F6
open PySem.Builtin.List renaming listTooLong->Ge,listSubscript?->KL
open List.Nodup renaming length_le_of_subset->Gi
open List.Sublist renaming map->Gj,append->IT,refl->JJ,filter->Nj
open PySem.Value renaming isStr->Gq,none->Ic,ref->J8,builtin->Lq,type->Ob
open PySem.Obj renaming mapSeq->Gu,mapDictKeys->Il,putName->IL,mapDict->Ki
open PySem.Builtin renaming bitNot->GH,divisionGoesByPylong->Hm,bitAnd->IH,bitXor->KT,bitOr->Lm
open PySem.NameKind renaming free->GX
open List.Pairwise renaming sublist->Hi,filter->Hl,nil->HM,imp_of_mem->Lj
open Ne renaming symm->Hs
open Function renaming comp->HQ
namespace Mine.Internal
theorem am{A0 A1:Prop}{G:Prop}(h:A0/\A1)(k:A0->A1->G):G:=k h.1 h.2
theorem bY{A0 A1 A2:Prop}{G:Prop}(h:A0/\A1/\A2)(k:A0->A1->A2->G):G:=am h.2 (k h.1)
theorem eQ{A0 A1 A2 A3:Prop}{G:Prop}(h:A0/\A1/\A2/\A3)(k:A0->A1->A2->A3->G):G:=bY h.2 (k h.1)
theorem nw{A0 A1 A2 A3 A4:Prop}{G:Prop}(h:A0/\A1/\A2/\A3/\A4)(k:A0->A1->A2->A3->A4->G):G:=eQ h.2 (k h.1)
theorem yI{A0 A1 A2 A3 A4 A5:Prop}{G:Prop}(h:A0/\A1/\A2/\A3/\A4/\A5)(k:A0->A1->A2->A3->A4->A5->G):G:=nw h.2 (k h.1)
theorem Bh{A0 A1 A2 A3 A4 A5 A6:Prop}{G:Prop}(h:A0/\A1/\A2/\A3/\A4/\A5/\A6)(k:A0->A1->A2->A3->A4->A5->A6->G):G:=yI h.2 (k h.1)
theorem Bi{A0 A1 A2 A3 A4 A5 A6 A7:Prop}{G:Prop}(h:A0/\A1/\A2/\A3/\A4/\A5/\A6/\A7)(k:A0->A1->A2->A3->A4->A5->A6->A7->G):G:=Bh h.2 (k h.1)
theorem Ce{A0 A1 A2 A3 A4 A5 A6 A7 A8:Prop}{G:Prop}(h:A0/\A1/\A2/\A3/\A4/\A5/\A6/\A7/\A8)(k:A0->A1->A2->A3->A4->A5->A6->A7->A8->G):G:=Bi h.2 (k h.1)
theorem aq{α:Sort _}{A0:α->Prop}{G:Prop}(h:∃ x:α,A0 x)(k:∀ x:α,A0 x->G):G:=h.elim k
theorem af{α:Sort _}{A0 A1:α->Prop}{G:Prop}(h:∃ x:α,A0 x/\A1 x)(k:∀ x:α,A0 x->A1 x->G):G:=h.elim fun x h=>am h (k x)
theorem aM{α:Sort _}{A0 A1 A2:α->Prop}{G:Prop}(h:∃ x:α,A0 x/\A1 x/\A2 x)(k:∀ x:α,A0 x->A1 x->A2 x->G):G:=h.elim fun x h=>bY h (k x)
theorem fu{α:Sort _}{A0 A1 A2 A3:α->Prop}{G:Prop}(h:∃ x:α,A0 x/\A1 x/\A2 x/\A3 x)(k:∀ x:α,A0 x->A1 x->A2 x->A3 x->G):G:=h.elim fun x h=>eQ h (k x)
theorem kZ{α:Sort _}{A0 A1 A2 A3 A4:α->Prop}{G:Prop}(h:∃ x:α,A0 x/\A1 x/\A2 x/\A3 x/\A4 x)(k:∀ x:α,A0 x->A1 x->A2 x->A3 x->A4 x->G):G:=h.elim fun x h=>nw h (k x)
theorem Cf{α:Sort _}{A0 A1 A2 A3 A4 A5:α->Prop}{G:Prop}(h:∃ x:α,A0 x/\A1 x/\A2 x/\A3 x/\A4 x/\A5 x)(k:∀ x:α,A0 x->A1 x->A2 x->A3 x->A4 x->A5 x->G):G:=h.elim fun x h=>yI h (k x)
theorem yJ{α:Sort _}{A0 A1 A2 A3 A4 A5 A6:α->Prop}{G:Prop}(h:∃ x:α,A0 x/\A1 x/\A2 x/\A3 x/\A4 x/\A5 x/\A6 x)(k:∀ x:α,A0 x->A1 x->A2 x->A3 x->A4 x->A5 x->A6 x->G):G:=h.elim fun x h=>Bh h (k x)
theorem Cg{α:Sort _}{A0 A1 A2 A3 A4 A5 A6 A7:α->Prop}{G:Prop}(h:∃ x:α,A0 x/\A1 x/\A2 x/\A3 x/\A4 x/\A5 x/\A6 x/\A7 x)(k:∀ x:α,A0 x->A1 x->A2 x->A3 x->A4 x->A5 x->A6 x->A7 x->G):G:=h.elim fun x h=>Bi h (k x)
theorem Ch{α:Sort _}{A0 A1 A2 A3 A4 A5 A6 A7 A8:α->Prop}{G:Prop}(h:∃ x:α,A0 x/\A1 x/\A2 x/\A3 x/\A4 x/\A5 x/\A6 x/\A7 x/\A8 x)(k:∀ x:α,A0 x->A1 x->A2 x->A3 x->A4 x->A5 x->A6 x->A7 x->A8 x->G):G:=h.elim fun x h=>Ce h (k x)
theorem eR{α:Sort _}{β:Sort _}{A0:α->β->Prop}{G:Prop}(h:∃ x:α,∃ y:β,A0 x y)(k:∀ x:α,∀ y:β,A0 x y->G):G:=h.elim fun x h=>aq h (k x)
theorem fL{α:Sort _}{β:Sort _}{A0 A1:α->β->Prop}{G:Prop}(h:∃ x:α,∃ y:β,A0 x y/\A1 x y)(k:∀ x:α,∀ y:β,A0 x y->A1 x y->G):G:=h.elim fun x h=>af h (k x)
theorem aW{α:Sort _}{β:Sort _}{A0 A1 A2:α->β->Prop}{G:Prop}(h:∃ x:α,∃ y:β,A0 x y/\A1 x y/\A2 x y)(k:∀ x:α,∀ y:β,A0 x y->A1 x y->A2 x y->G):G:=h.elim fun x h=>aM h (k x)
theorem cp{α:Sort _}{β:Sort _}{A0 A1 A2 A3:α->β->Prop}{G:Prop}(h:∃ x:α,∃ y:β,A0 x y/\A1 x y/\A2 x y/\A3 x y)(k:∀ x:α,∀ y:β,A0 x y->A1 x y->A2 x y->A3 x y->G):G:=h.elim fun x h=>fu h (k x)
theorem qA{α:Sort _}{β:Sort _}{A0 A1 A2 A3 A4:α->β->Prop}{G:Prop}(h:∃ x:α,∃ y:β,A0 x y/\A1 x y/\A2 x y/\A3 x y/\A4 x y)(k:∀ x:α,∀ y:β,A0 x y->A1 x y->A2 x y->A3 x y->A4 x y->G):G:=h.elim fun x h=>kZ h (k x)
theorem kr{α:Sort _}{β:Sort _}{A0 A1 A2 A3 A4 A5:α->β->Prop}{G:Prop}(h:∃ x:α,∃ y:β,A0 x y/\A1 x y/\A2 x y/\A3 x y/\A4 x y/\A5 x y)(k:∀ x:α,∀ y:β,A0 x y->A1 x y->A2 x y->A3 x y->A4 x y->A5 x y->G):G:=h.elim fun x h=>Cf h (k x)
theorem Aa{α:Sort _}{β:Sort _}{A0 A1 A2 A3 A4 A5 A6:α->β->Prop}{G:Prop}(h:∃ x:α,∃ y:β,A0 x y/\A1 x y/\A2 x y/\A3 x y/\A4 x y/\A5 x y/\A6 x y)(k:∀ x:α,∀ y:β,A0 x y->A1 x y->A2 x y->A3 x y->A4 x y->A5 x y->A6 x y->G):G:=h.elim fun x h=>yJ h (k x)
theorem Ci{α:Sort _}{β:Sort _}{A0 A1 A2 A3 A4 A5 A6 A7:α->β->Prop}{G:Prop}(h:∃ x:α,∃ y:β,A0 x y/\A1 x y/\A2 x y/\A3 x y/\A4 x y/\A5 x y/\A6 x y/\A7 x y)(k:∀ x:α,∀ y:β,A0 x y->A1 x y->A2 x y->A3 x y->A4 x y->A5 x y->A6 x y->A7 x y->G):G:=h.elim fun x h=>Cg h (k x)
theorem Cj{α:Sort _}{β:Sort _}{A0 A1 A2 A3 A4 A5 A6 A7 A8:α->β->Prop}{G:Prop}(h:∃ x:α,∃ y:β,A0 x y/\A1 x y/\A2 x y/\A3 x y/\A4 x y/\A5 x y/\A6 x y/\A7 x y/\A8 x y)(k:∀ x:α,∀ y:β,A0 x y->A1 x y->A2 x y->A3 x y->A4 x y->A5 x y->A6 x y->A7 x y->A8 x y->G):G:=h.elim fun x h=>Ch h (k x)
theorem qB{α:Sort _}{β:Sort _}{γ:Sort _}{A0:α->β->γ->Prop}{G:Prop}(h:∃ x:α,∃ y:β,∃ z:γ,A0 x y z)(k:∀ x:α,∀ y:β,∀ z:γ,A0 x y z->G):G:=h.elim fun x h=>eR h (k x)
theorem lb{α:Sort _}{β:Sort _}{γ:Sort _}{A0 A1:α->β->γ->Prop}{G:Prop}(h:∃ x:α,∃ y:β,∃ z:γ,A0 x y z/\A1 x y z)(k:∀ x:α,∀ y:β,∀ z:γ,A0 x y z->A1 x y z->G):G:=h.elim fun x h=>fL h (k x)
theorem tL{α:Sort _}{β:Sort _}{γ:Sort _}{A0 A1 A2:α->β->γ->Prop}{G:Prop}(h:∃ x:α,∃ y:β,∃ z:γ,A0 x y z/\A1 x y z/\A2 x y z)(k:∀ x:α,∀ y:β,∀ z:γ,A0 x y z->A1 x y z->A2 x y z->G):G:=h.elim fun x h=>aW h (k x)
theorem dH{α:Sort _}{β:Sort _}{γ:Sort _}{A0 A1 A2 A3:α->β->γ->Prop}{G:Prop}(h:∃ x:α,∃ y:β,∃ z:γ,A0 x y z/\A1 x y z/\A2 x y z/\A3 x y z)(k:∀ x:α,∀ y:β,∀ z:γ,A0 x y z->A1 x y z->A2 x y z->A3 x y z->G):G:=h.elim fun x h=>cp h (k x)
theorem iC{α:Sort _}{β:Sort _}{γ:Sort _}{A0 A1 A2 A3 A4:α->β->γ->Prop}{G:Prop}(h:∃ x:α,∃ y:β,∃ z:γ,A0 x y z/\A1 x y z/\A2 x y z/\A3 x y z/\A4 x y z)(k:∀ x:α,∀ y:β,∀ z:γ,A0 x y z->A1 x y z->A2 x y z->A3 x y z->A4 x y z->G):G:=h.elim fun x h=>qA h (k x)
theorem vE{α:Sort _}{β:Sort _}{γ:Sort _}{A0 A1 A2 A3 A4 A5:α->β->γ->Prop}{G:Prop}(h:∃ x:α,∃ y:β,∃ z:γ,A0 x y z/\A1 x y z/\A2 x y z/\A3 x y z/\A4 x y z/\A5 x y z)(k:∀ x:α,∀ y:β,∀ z:γ,A0 x y z->A1 x y z->A2 x y z->A3 x y z->A4 x y z->A5 x y z->G):G:=h.elim fun x h=>kr h (k x)
theorem Bj{α:Sort _}{β:Sort _}{γ:Sort _}{A0 A1 A2 A3 A4 A5 A6:α->β->γ->Prop}{G:Prop}(h:∃ x:α,∃ y:β,∃ z:γ,A0 x y z/\A1 x y z/\A2 x y z/\A3 x y z/\A4 x y z/\A5 x y z/\A6 x y z)(k:∀ x:α,∀ y:β,∀ z:γ,A0 x y z->A1 x y z->A2 x y z->A3 x y z->A4 x y z->A5 x y z->A6 x y z->G):G:=h.elim fun x h=>Aa h (k x)
theorem vF{α:Sort _}{β:Sort _}{γ:Sort _}{A0 A1 A2 A3 A4 A5 A6 A7:α->β->γ->Prop}{G:Prop}(h:∃ x:α,∃ y:β,∃ z:γ,A0 x y z/\A1 x y z/\A2 x y z/\A3 x y z/\A4 x y z/\A5 x y z/\A6 x y z/\A7 x y z)(k:∀ x:α,∀ y:β,∀ z:γ,A0 x y z->A1 x y z->A2 x y z->A3 x y z->A4 x y z->A5 x y z->A6 x y z->A7 x y z->G):G:=h.elim fun x h=>Ci h (k x)
theorem Ck{α:Sort _}{β:Sort _}{γ:Sort _}{A0 A1 A2 A3 A4 A5 A6 A7 A8:α->β->γ->Prop}{G:Prop}(h:∃ x:α,∃ y:β,∃ z:γ,A0 x y z/\A1 x y z/\A2 x y z/\A3 x y z/\A4 x y z/\A5 x y z/\A6 x y z/\A7 x y z/\A8 x y z)(k:∀ x:α,∀ y:β,∀ z:γ,A0 x y z->A1 x y z->A2 x y z->A3 x y z->A4 x y z->A5 x y z->A6 x y z->A7 x y z->A8 x y z->G):G:=h.elim fun x h=>Cj h (k x)
theorem eT{α:Sort _}{β:Sort _}{γ:Sort _}{δ:Sort _}{A0:α->β->γ->δ->Prop}{G:Prop}(h:∃ x:α,∃ y:β,∃ z:γ,∃ u:δ,A0 x y z u)(k:∀ x:α,∀ y:β,∀ z:γ,∀ u:δ,A0 x y z u->G):G:=h.elim fun x h=>qB h (k x)
theorem Cl{α:Sort _}{β:Sort _}{γ:Sort _}{δ:Sort _}{A0 A1:α->β->γ->δ->Prop}{G:Prop}(h:∃ x:α,∃ y:β,∃ z:γ,∃ u:δ,A0 x y z u/\A1 x y z u)(k:∀ x:α,∀ y:β,∀ z:γ,∀ u:δ,A0 x y z u->A1 x y z u->G):G:=h.elim fun x h=>lb h (k x)
theorem wN{α:Sort _}{β:Sort _}{γ:Sort _}{δ:Sort _}{A0 A1 A2:α->β->γ->δ->Prop}{G:Prop}(h:∃ x:α,∃ y:β,∃ z:γ,∃ u:δ,A0 x y z u/\A1 x y z u/\A2 x y z u)(k:∀ x:α,∀ y:β,∀ z:γ,∀ u:δ,A0 x y z u->A1 x y z u->A2 x y z u->G):G:=h.elim fun x h=>tL h (k x)
theorem Ab{α:Sort _}{β:Sort _}{γ:Sort _}{δ:Sort _}{A0 A1 A2 A3:α->β->γ->δ->Prop}{G:Prop}(h:∃ x:α,∃ y:β,∃ z:γ,∃ u:δ,A0 x y z u/\A1 x y z u/\A2 x y z u/\A3 x y z u)(k:∀ x:α,∀ y:β,∀ z:γ,∀ u:δ,A0 x y z u->A1 x y z u->A2 x y z u->A3 x y z u->G):G:=h.elim fun x h=>dH h (k x)
theorem Cm{α:Sort _}{β:Sort _}{γ:Sort _}{δ:Sort _}{A0 A1 A2 A3 A4:α->β->γ->δ->Prop}{G:Prop}(h:∃ x:α,∃ y:β,∃ z:γ,∃ u:δ,A0 x y z u/\A1 x y z u/\A2 x y z u/\A3 x y z u/\A4 x y z u)(k:∀ x:α,∀ y:β,∀ z:γ,∀ u:δ,A0 x y z u->A1 x y z u->A2 x y z u->A3 x y z u->A4 x y z u->G):G:=h.elim fun x h=>iC h (k x)
theorem yK{α:Sort _}{β:Sort _}{γ:Sort _}{δ:Sort _}{A0 A1 A2 A3 A4 A5 A6:α->β->γ->δ->Prop}{G:Prop}(h:∃ x:α,∃ y:β,∃ z:γ,∃ u:δ,A0 x y z u/\A1 x y z u/\A2 x y z u/\A3 x y z u/\A4 x y z u/\A5 x y z u/\A6 x y z u)(k:∀ x:α,∀ y:β,∀ z:γ,∀ u:δ,A0 x y z u->A1 x y z u->A2 x y z u->A3 x y z u->A4 x y z u->A5 x y z u->A6 x y z u->G):G:=h.elim fun x h=>Bj h (k x)
theorem Cn{α:Sort _}{β:Sort _}{γ:Sort _}{δ:Sort _}{A0 A1 A2 A3 A4 A5 A6 A7:α->β->γ->δ->Prop}{G:Prop}(h:∃ x:α,∃ y:β,∃ z:γ,∃ u:δ,A0 x y z u/\A1 x y z u/\A2 x y z u/\A3 x y z u/\A4 x y z u/\A5 x y z u/\A6 x y z u/\A7 x y z u)(k:∀ x:α,∀ y:β,∀ z:γ,∀ u:δ,A0 x y z u->A1 x y z u->A2 x y z u->A3 x y z u->A4 x y z u->A5 x y z u->A6 x y z u->A7 x y z u->G):G:=h.elim fun x h=>vF h (k x)
theorem Co{α:Sort _}{β:Sort _}{γ:Sort _}{δ:Sort _}{A0 A1 A2 A3 A4 A5 A6 A7 A8:α->β->γ->δ->Prop}{G:Prop}(h:∃ x:α,∃ y:β,∃ z:γ,∃ u:δ,A0 x y z u/\A1 x y z u/\A2 x y z u/\A3 x y z u/\A4 x y z u/\A5 x y z u/\A6 x y z u/\A7 x y z u/\A8 x y z u)(k:∀ x:α,∀ y:β,∀ z:γ,∀ u:δ,A0 x y z u->A1 x y z u->A2 x y z u->A3 x y z u->A4 x y z u->A5 x y z u->A6 x y z u->A7 x y z u->A8 x y z u->G):G:=h.elim fun x h=>Ck h (k x)
theorem ka{f:α->Option β}{G:Prop}(e:x.bind f=DJ r)(k:∀ a,x=DJ a->f a=DJ r->G):G:=match x,e,k with
 | some a,e,k=>k a rfl e
theorem bN{f:α × γ->Option β}{G:Prop}(e:x.bind f=DJ r)(k:∀ a b,x=DJ (a,b)->f (a,b)=DJ r->G):G:=ka e fun a=>k a.1 a.2
theorem Bk{f:α × γ × δ->Option β}{G:Prop}(e:x.bind f=DJ r)(k:∀ a b c,x=DJ (a,b,c)->f (a,b,c)=DJ r->G):G:=ka e fun a=>k a.1 a.2.1 a.2.2
@[elab_as_elim] theorem yF {α:Sort _} {a b:α} {motive:α->Prop} (h:a=b) (k:motive b):motive a:=h ▸ k
@[elab_as_elim] theorem yB {α:Sort _} {a b:α} {motive:α->Prop} (h:a=b) (k:motive a):motive b:=h ▸ k
theorem bs{f:α->Option β}(e:x=DJ a)(k:f a=r):x.bind f=r:=by subst e;exact k
@[elab_as_elim] theorem jA {α:Type} {a:α} {motive:α->Prop} {c:α} (e:DJ a=DJ c) (k:motive a):motive c:=EU e ▸ k
@[elab_as_elim] theorem jR {α:Type} {a:α} {motive:α->Prop} {c:α} (e:DJ c=DJ a) (k:motive a):motive c:=jA e.symm k
@[elab_as_elim] theorem jB {α β:Type} {a:α} {b:β} {motive:α->β->Prop} {c:α} {d:β} (e:DJ (a,b)=DJ (c,d)) (k:motive a b):motive c d:=by cases e;exact k
@[elab_as_elim] theorem jS {α β:Type} {a:α} {b:β} {motive:α->β->Prop} {c:α} {d:β} (e:DJ (c,d)=DJ (a,b)) (k:motive a b):motive c d:=jB e.symm k
@[elab_as_elim] theorem jC {α β γ:Type} {a:α} {b:β} {x:γ} {motive:α->β->γ->Prop} {c:α} {d:β} {y:γ} (e:DJ (a,b,x)=DJ (c,d,y)) (k:motive a b x):motive c d y:=by cases e;exact k
@[elab_as_elim] theorem jT {α β γ:Type} {a:α} {b:β} {x:γ} {motive:α->β->γ->Prop} {c:α} {d:β} {y:γ} (e:DJ (c,d,y)=DJ (a,b,x)) (k:motive a b x):motive c d y:=jC e.symm k
@[elab_as_elim] theorem jP {α β:Type} {a:α} {b:β} {motive:α->β->Prop} {c:α} {d:β} (e:(a,b)=(c,d)) (k:motive a b):motive c d:=jB (congrArg DJ e) k
@[elab_as_elim] theorem jU {α β:Type} {a:α} {b:β} {motive:α->β->Prop} {c:α} {d:β} (e:(c,d)=(a,b)) (k:motive a b):motive c d:=jP e.symm k
@[elab_as_elim] theorem jV {α β γ:Type} {a:α} {b:β} {x:γ} {motive:α->β->γ->Prop} {c:α} {d:β} {y:γ} (e:(a,b,x)=(c,d,y)) (k:motive a b x):motive c d y:=jC (congrArg DJ e) k
@[elab_as_elim] theorem jW {α β γ:Type} {a:α} {b:β} {x:γ} {motive:α->β->γ->Prop} {c:α} {d:β} {y:γ} (e:(c,d,y)=(a,b,x)) (k:motive a b x):motive c d y:=jV e.symm k
theorem oB(a:α)(f:α->Option β):(DJ a).bind f=f a:=rfl
theorem oM{f:α->β}:(DJ a).map f=DJ (f a):=rfl
theorem gE{α:Type}{l:List α}{i:Nat}(h:i<l.length):l[i]? =DJ l[i]:=Em h
theorem gN{α:Type}{l:List α}{i j:Nat}(h:i≠j){a:α}:(l.set i a)[j]? =l[j]? :=F8 h
theorem fE:(false=true)=False:=EJ
theorem dS:a::l++m=a::(l++m):=rfl
theorem dR(m:List α):[]++m=m:=rfl
theorem mC{f:α->β}:(a::l).map f=f a::l.map f:=rfl
theorem mN{f:α->β}:([]:List α).map f=[]:=rfl
theorem nO{G:Prop}(e:none=DJ a):G:=nomatch e
theorem oN{G:Prop}(e:DJ a=none):G:=nomatch e
theorem tF{G:Prop}(e:true=false):G:=nomatch e
theorem fT{G:Prop}(e:false=true):G:=nomatch e
end Mine.Internal
namespace Mine.Internal.La
set_option genSizeOf false in
set_option genInjectivity false in
inductive X where
 | v (i:Nat)
 | n (k:Nat)
 | a (x y:X)
 | m (k:Nat) (x:X)
noncomputable section
noncomputable def xv:List Nat->Nat->Nat
 | [],_=>0
 | a::_,0=>a
 | _::l,i+1=>xv l i
noncomputable def X.d(c:List Nat):X->Nat
 | .v i=>xv c i
 | .n k=>k
 | .a x y=>x.d c+y.d c
 | .m k x=>k * x.d c
noncomputable def X.k:X->Nat
 | .v _=>0
 | .n k=>k
 | .a x y=>x.k+y.k
 | .m k x=>k * x.k
noncomputable def X.o(i:Nat):X->Nat
 | .v j=>cond (HG i j) 1 0
 | .n _=>0
 | .a x y=>x.o i+y.o i
 | .m k x=>k * x.o i
noncomputable def pF(f:Nat->Nat):List Nat->Nat
 | []=>0
 | a::l=>f 0 * a+pF (fun i=>f (i+1)) l
theorem nC:∀ (l:List Nat),pF (fun _=>0) l=0
 | []=>rfl
 | a::l=>by show 0 * a+pF (fun _=>0) l=0;rewrite [nC l,JC];rfl
theorem uL:∀ (l:List Nat) (f g:Nat->Nat),pF (fun i=>f i+g i) l=pF f l+pF g l
 | [],_,_=>rfl
 | a::l,f,g=>by
  show (f 0+g 0) * a+pF (fun i=>f (i+1)+g (i+1)) l=_;rewrite [uL l (fun i=>f (i+1)) (fun i=>g (i+1)),Nat.add_mul];exact Iu _ _ _ _
theorem uM:∀ (l:List Nat) (k:Nat) (f:Nat->Nat),pF (fun i=>k * f i) l=k * pF f l
 | [],_,_=>rfl
 | a::l,k,f=>by
  show k * f 0 * a+pF (fun i=>k * f (i+1)) l=k * (f 0 * a+pF (fun i=>f (i+1)) l);rewrite [uM l k (fun i=>f (i+1)),Ke,I6];rfl
theorem zJ:∀ (l:List Nat) (j:Nat),pF (fun i=>cond (HG i j) 1 0) l=xv l j
 | [],_=>rfl
 | a::l,0=>by
  show 1 * a+pF (fun _=>0) l=a;rewrite [nC l,MN];rfl
 | a::l,j+1=>by
  show 0 * a+pF (fun i=>cond (HG i j) 1 0) l=xv l j;rewrite [zJ l j,JC];exact En _
theorem X.is(c:List Nat):∀ x:X,x.d c=x.k+pF (fun i=>x.o i) c
 | .v j=>((En _).trans (zJ c j)).symm
 | .n k=>by show k=k+pF (fun _=>0) c;rewrite [nC c];rfl
 | .a x y=>by
  show x.d c+y.d c=(x.k+y.k)+pF (fun i=>x.o i+y.o i) c;rewrite [X.is c x,X.is c y,uL];exact Iu _ _ _ _
 | .m k x=>by
  show k * x.d c=k * x.k+pF (fun i=>k * x.o i) c;rewrite [X.is c x,uM,Ke];rfl
theorem wO:∀ (l:List Nat) (f g:Nat->Nat),(∀ i,i<l.length->f i<=g i)->pF f l<=pF g l
 | [],_,_,_=>DV _
 | a::l,f,g,h=>Iw (Nat.mul_le_mul_right a (h 0 (L0 _))) (wO l _ _ fun i hi=>h (i+1) (Nat.succ_lt_succ hi))
noncomputable def Ac(p:Nat->Bool):Nat->Bool
 | 0=>true
 | n+1=>p n&&Ac p n
theorem rX{p:Nat->Bool}:∀ {n:Nat},Ac p n=true->∀ i,i<n->p i=true
 | n+1,h,i,hi=>by
  have h':=(Eb _ _).mp h;rcases Nat.lt_or_eq_of_le (FT hi) with q | q
  ·exact rX h'.2 i q
  ·exact q ▸ h'.1
noncomputable def CY(N:Nat)(x y:X):Bool:=IQ x.k y.k&&Ac (fun i=>IQ (x.o i) (y.o i)) N
theorem Ad(h:CY c.length x y=true):x.d c<=y.d c:=by
 have h':=(Eb _ _).mp h;rewrite [X.is c x,X.is c y];exact Iw (Io h'.1) (wO _ _ _ fun i hi=>Io (rX h'.2 i hi))
noncomputable def Bl(c:List Nat)(r:Nat)(x y:X):Prop:=match r with
 | 0=>x.d c<=y.d c
 | 1=>x.d c<y.d c
 | _=>x.d c=y.d c
noncomputable def Bc(r:Nat)(x y:X):X:=match r with
 | 0=>x
 | 1=> .a x (.n 1)
 | 2=>x
 | _=>y
noncomputable def CZ(r:Nat)(x y:X):X:=match r with
 | 0=>y
 | 1=>y
 | 2=>y
 | _=>x
theorem Ae(h:Bl c r x y):(Bc r x y).d c<=(CZ r x y).d c:=by
 match r,h with
 | 0,h=>exact h
 | 1,h=>exact h
 | 2,h=>exact G8 h
 | 3,h=>exact G8 h.symm
 | _+4,h=>exact G8 h.symm
noncomputable def Cp(N r:Nat)(x y:X):List (Nat × X × X)->X->X->Bool
 | [],A,B=>IQ r 1&&CY N (.a (Bc r x y) B) (.a y A)
 | (s,a,b)::hs,A,B=>Cp N r x y hs (.a A (Bc s a b)) (.a B (CZ s a b))
noncomputable def imp(c:List Nat)(g:Prop):List (Nat × X × X)->Prop
 | []=>g
 | (s,a,b)::hs=>Bl c s a b->imp c g hs
theorem Cq{C:Nat->Prop}(r:Nat)(h:IQ r 1=true)(a:C 0)(b:C 1):C r:=by
 cases r with
 | zero=>exact a
 | succ r=>cases r with
  | zero=>exact b
  | succ r=>exact Ev h
theorem wP:∀ {hs:List (Nat × X × X)} {A B:X},Cp c.length r x y hs A B=true->A.d c<=B.d c->imp c (Bl c r x y) hs
 | [],A,B,h,q=>by
  have h':=(Eb _ _).mp h;have l:(Bc r x y).d c+B.d c<=y.d c+A.d c:=Ad h'.2;have l2:(Bc r x y).d c<=y.d c:=Nat.le_of_add_le_add_right (DO l (IS q _));exact Cq (C:=fun r=>(Bc r x y).d c<=y.d c->Bl c r x y) r h'.1 id id l2
 | (s,a,b)::hs,A,B,h,q=>fun p=>wP h (Iw q (Ae p))
noncomputable def rd:Nat->Nat->List X->List (Nat × X × X)->List (Nat × X × X)
 | 0,_,_,o=>o
 | f+1,c,s,o=>cond (HG c 0) o (cond (IQ (c % 32) 7) (rd f (c / 32) (.v (c % 32)::s) o)
  (cond (IQ 16 (c % 32)) (match s with | .n k::s=>rd f (c / 32) (.n (k * 16+(c % 32 - 16))::s) o | _=>o)
  (cond (HG (c % 32) 14) (rd f (c / 32) (.n 0::s) o)
  (cond (HG (c % 32) 8) (match s with | y::x::s=>rd f (c / 32) (.a x y::s) o | _=>o)
  (cond (HG (c % 32) 9) (match s with | y:: .n k::s=>rd f (c / 32) (.m k y::s) o | _=>o)
  (match s with | y::x::s=>rd f (c / 32) s ((c % 32 - 10,x,y)::o) | _=>o))))))
noncomputable def Af(N:Nat):List (Nat × X × X)->Bool
 | (r,x,y)::hs=>Cp N r x y hs (.n 0) (.n 0)
 | []=>false
noncomputable def says(c:List Nat):List (Nat × X × X)->Prop
 | (r,x,y)::hs=>imp c (Bl c r x y) hs
 | []=>True
theorem iD:∀ {l:List (Nat × X × X)},Af c.length l=true->says c l
 | (_,_,_)::_,h=>wP h (DV _)
end
end Mine.Internal.La
namespace Mine.Internal
open La
theorem DC(c:List Nat)(n:Nat)(h:Af c.length (rd 99 n [] [])=true):says c (rd 99 n [] []):=iD h
theorem dm(n:Nat)(h:Af 1 (rd 99 n [] [])=true):says [a] (rd 99 n [] []):=iD h
theorem bu(n:Nat)(h:Af 2 (rd 99 n [] [])=true):says [a,b] (rd 99 n [] []):=iD h
theorem bS(n:Nat)(h:Af 3 (rd 99 n [] [])=true):says [a,b,c] (rd 99 n [] []):=iD h
theorem kt(n:Nat)(h:Af 4 (rd 99 n [] [])=true):says [a,b,c,d] (rd 99 n [] []):=iD h
theorem wK(n:Nat)(h:Af 5 (rd 99 n [] [])=true):says [a,b,c,d,e] (rd 99 n [] []):=iD h
theorem Bd(a b:Nat):a<=a - b+b:=Nat.sub_le_iff_le_add.mp (DV _)
theorem tt:true=true:=rfl
theorem zK{a:Int}(h:0<=a)(p:¬a=0)(q:¬a=1):2<=a:=Ix (Iy.mpr ⟨Ix (Iy.mpr ⟨h,Hs p⟩),Hs q⟩)
theorem Cr(p:¬a=0)(q:¬a=1):2<=a:=GZ (Jj p) (Hs q)
theorem Df{n:Nat}(h:n<=1):(n:Int)=0\/(n:Int)=1:=(Nat.le_or_eq_of_le_succ (n:=0) h).imp (fun h=>congrArg _ (Nat.le_zero.mp h)) fun e=>congrArg _ e
theorem Cs{i:Nat}{x:Int}(q:¬(i:Int)=x)(h:0<=x):¬i=x.toNat:=fun e=>q (e ▸ Ho h)
theorem Bm(p:¬n=i):i<n+1↔i<n:=⟨fun h=>GZ (FT h) (Hs p),Eg⟩
theorem C0(h:k=l+1\/l+2<k):l≠k:=h.elim (fun e=>e ▸ D4 (EA l)) fun h=>D4 (JD (Eg (EA l)) h)
theorem C1(h:k=l+1\/l+2<k):l+2≠k:=h.elim (fun e=>e ▸ Ep (EA (l+1))) fun h=>D4 h
theorem Dg(h:k<l\/k=l+1\/l+2<k):l≠k:=h.elim Ep C0
theorem Dh(h:k<l\/k=l+1\/l+2<k):l+2≠k:=h.elim (fun h=>Ep (Eg (Eg h))) C1
theorem kq(a:k+t=20)(b:t<R)(c:R<=C)(d:C<=20):k - 1<k/\k - 1+(t+1)=20:=match k,a with
 | 0,a=>absurd (Ea b (DO c d)) (Gh (G8 ((En t).symm.trans a).symm))
 | k+1,a=>⟨EA k,(Nat.succ_add_eq_add_succ k t).symm.trans a⟩
theorem B3(h:k<=3):k=0\/k=1\/k=2\/k=3:=(Nat.le_or_eq_of_le_succ (n:=2) h).elim (fun h=>(Nat.le_or_eq_of_le_succ (n:=1) h).elim (fun h=>(Nat.le_or_eq_of_le_succ (n:=0) h).elim (fun h=> .inl (Nat.le_zero.mp h)) fun e=> .inr (.inl e)) fun e=> .inr (.inr (.inl e))) fun e=> .inr (.inr (.inr e))
theorem yL{L i j:Nat}(h:i≠j):L+i≠L+j:=fun e=>h (Nat.add_left_cancel e)
theorem Be(h:L+4<x)(hi:i<=4):L+i≠x:=D4 (Ek (IS hi L) h)
theorem Di(h:L+4<x)(ha:a<L):a≠x:=D4 (JD ha (Ek (D5 L 4) h))
theorem Dj:∀ k:Nat,k<4->∀ i:Nat,i<k->(k=1/\i=0)\/(k=2/\i=0)\/(k=2/\i=1)\/(k=3/\i=0)\/(k=3/\i=1)\/(k=3/\i=2):=by decide
theorem tM{P Q a b:Nat}(h1:P / 2+2 * (Q / 2)=a / 2+b / 2)(h2:P % 2+2 * (Q % 2)=a % 2+b % 2):P+2 * Q=a+b:=by lia
theorem uN(h:a<2 ^ (n+1)):a / 2<2 ^ n:=Nat.div_lt_of_lt_mul (Nat.pow_succ' ▸ h)
theorem Ct{m:Nat}(z:m<=2097152):(m:Int)<2 ^ 63:=Int.lt_of_le_of_lt (Int.ofNat_le.mpr z) (by decide)
theorem Cu{i:Int}{n m:Nat}(h0:0<=i)(h:i.toNat<n)(e:m=n)(z:m<=2097152):i<2 ^ 63:=by
 have k:(i.toNat:Int)<2 ^ 63:=Ct (EK (Ea h (e ▸ z)));rwa [Ho h0]at k
theorem Bn{i:Int}{n m:Nat}(h1:0<=i+n)(e:m=n)(z:m<=2097152): -2 ^ 63<=i:=by lia
theorem Bo(h:x<p):x<p * 2:=Ea h (Nat.le_mul_of_pos_right p (by decide))
theorem Bp(h:x<p):x+p<p * 2:=(Nat.mul_two p).symm ▸ Nat.add_lt_add_right h p
end Mine.Internal
namespace Mine.Internal
noncomputable section
abbrev Nm:=List Nat
inductive AV where
 | none
 | bool (b:Bool)
 | int (i:Int)
 | str (s:Nm)
 | tup (vs:List AV)
 | ref (a:Nat)
set_option genInjectivity true in
set_option genCtorIdx true in
gen_injective_theorems% AV
theorem and_eq_true{a b:Bool}(h:a=true)(k:b=true):(a&&b)=true:=by refine yF h ?_;exact k
theorem zL{a b:Bool}(h:(a&&b)=true):a=true:=by cases a<;>first | rfl | exact Ev h
theorem zM{a b:Bool}(h:(a&&b)=true):b=true:=by cases a<;>first | exact h | exact Ev h
theorem nD(h:x=y)(k:xs=ys):x::xs=y::ys:=by (refine yF h ?_;refine yF k ?_;rfl)
mutual
noncomputable def AV.beq:AV->AV->Bool
 | .none,b=>match b with
  | .none=>true
  | _=>false
 | .bool x,b=>match b with
  | .bool y=>x == y
  | _=>false
 | .int x,b=>match b with
  | .int y=>decide (x=y)
  | _=>false
 | .str x,b=>match b with
  | .str y=>decide (x=y)
  | _=>false
 | .tup x,b=>match b with
  | .tup y=>AV.beqL x y
  | _=>false
 | .ref x,b=>match b with
  | .ref y=>decide (x=y)
  | _=>false
noncomputable def AV.beqL:List AV->List AV->Bool
 | [],b=>b.isEmpty
 | x::xs,b=>match b with
  | y::ys=>AV.beq x y&&AV.beqL xs ys
  | _=>false
end
mutual
theorem AV.beq_refl:∀ a:AV,AV.beq a a=true
 | .none=>rfl
 | .bool true=>rfl
 | .bool false=>rfl
 | .int _=>decide_eq_true rfl
 | .str _=>decide_eq_true rfl
 | .tup x=>AV.beqL_refl x
 | .ref _=>decide_eq_true rfl
theorem AV.beqL_refl:∀ a:List AV,AV.beqL a a=true
 | []=>rfl
 | x::xs=>and_eq_true (AV.beq_refl x) (AV.beqL_refl xs)
end
mutual
theorem AV.of_beq:∀ {a b:AV},AV.beq a b=true->a=b
 | .none,b,e=>by cases b<;>first | rfl | exact Ev e
 | .bool x,b,e=>by cases b<;>first | exact congrArg _ (eq_of_beq e) | exact Ev e
 | .int x,b,e=>by cases b<;>first | exact congrArg _ (of_decide_eq_true e) | exact Ev e
 | .str x,b,e=>by cases b<;>first | exact congrArg _ (of_decide_eq_true e) | exact Ev e
 | .tup x,b,e=>by cases b<;>first | exact congrArg _ (AV.of_beqL e) | exact Ev e
 | .ref x,b,e=>by cases b<;>first | exact congrArg _ (of_decide_eq_true e) | exact Ev e
theorem AV.of_beqL:∀ {a b:List AV},AV.beqL a b=true->a=b
 | [],b,e=>by cases b<;>first | rfl | exact Ev e
 | x::xs,b,e=>by
  cases b with
  | nil=>exact Ev e
  | cons y ys=>exact nD (AV.of_beq (zL e)) (AV.of_beqL (zM e))
end
noncomputable instance:DecidableEq AV:=fun a b=>if h:AV.beq a b=true then .isTrue (AV.of_beq h) else .isFalse fun e=>h (e ▸ AV.beq_refl a)
inductive AO where
 | list (vs:List AV)
 | dict (es:List (AV × AV))
 | inst (d:Nat)
set_option genInjectivity true in
set_option genCtorIdx true in
gen_injective_theorems% AO
abbrev Hp:=List AO
abbrev aZ:=List (Option AV)
inductive Op where | add | sub | mul | fdiv | mod | pow | shl | shr | band | bor | bxor (u:Unit)
inductive B4 where | eq | ne | lt | gt (u:Unit) | ge | in_ | notIn
inductive BI where | len | list | tuple | sum | min1 | min2 | str | lenset (u:Unit)
inductive Me where | append | extend | pop | index (u:Unit) | get
set_option genCtorIdx true in
gen_injective_theorems% Op
set_option genCtorIdx true in
gen_injective_theorems% B4
set_option genCtorIdx true in
gen_injective_theorems% BI
set_option genCtorIdx true in
gen_injective_theorems% Me
noncomputable def Bq(n:Nat):Op:=[Op.add,.sub,.mul,.fdiv,.mod,.pow,.shl,.shr,.band,.bor,.bxor ()].getD n .add
theorem rY(a:Op):Bq a.ctorIdx=a:=by cases a<;>rfl
noncomputable instance:DecidableEq Op:=fun a b=>if h:a.ctorIdx=b.ctorIdx then .isTrue ((rY a).symm.trans ((congrArg Bq h).trans (rY b))) else .isFalse fun e=>h (congrArg _ e)
inductive rW where | one (i:Nat) | many (is:List Nat)
set_option genCtorIdx true in
gen_injective_theorems% rW
mutual
inductive E where
 | const (v:AV)
 | loc (i:Nat)
 | free (i:Nat)
 | bin (o:Op) (a b:E)
 | neg (a:E)
 | not (a:E)
 | bop (isAnd:Bool) (es:List E)
 | cmp (o:B4) (a b:E)
 | ite (t a b:E)
 | tup (es:List E)
 | list (es:List E)
 | dict (kvs:List E)
 | attr (o:E) (n:Nm)
 | sub (o i:E)
 | slice (o:E) (n:Nat)
 | call (f:Nat) (es:List E)
 | new (es:List E)
 | meth (o:E) (f:Nat) (es:List E)
 | bi (b:BI) (es:List E)
 | bm (m:Me) (o:E) (es:List E)
 | comp (k:Nat) (t:rW) (rng:Bool) (it:E) (g:G)
inductive G where
 | elt (e:E)
 | if_ (c:E) (g:G)
 | for_ (t:rW) (rng:Bool) (it:E) (g:G)
end
inductive S where
 | assign (t:rW) (e:E)
 | setAttr (o:E) (n:Nm) (e:E)
 | setSub (o i e:E)
 | augLoc (i:Nat) (op:Op) (e:E)
 | augAttr (o:E) (n:Nm) (op:Op) (e:E)
 | augSub (o i:E) (op:Op) (e:E)
 | expr (e:E)
 | ret (e:E)
 | ite (t:E) (b o:List S)
 | while_ (t:E) (b:List S)
 | for_ (t:rW) (rng:Bool) (it:E) (b:List S)
 | cont
 | pass
 | fail
inductive Fl where | next | cont | ret (v:AV)
set_option genCtorIdx true in
gen_injective_theorems% Fl
structure Fn where
 np:Nat
 nl:Nat
 body:List S
noncomputable def wL{α:Type}(vs:List AV)(f:AV->Option α):Option α:=match vs with
 | []=>none
 | v::r=>match r with
  | []=>f v
  | _::_=>none
noncomputable def Cv{α:Type}(vs:List AV)(f:AV->AV->Option α):Option α:=match vs with
 | []=>none
 | v::r=>wL r (f v)
noncomputable def nE{α:Type}(v:AV)(f:Nat->Option α):Option α:=match v with
 | .ref a=>f a
 | _=>none
noncomputable def gz{α:Type}(v:AV)(f:Int->Option α):Option α:=match v with
 | .int a=>f a
 | _=>none
noncomputable def zN{α:Type}(v:AV)(f:Nm->Option α):Option α:=match v with
 | .str a=>f a
 | _=>none
noncomputable def wQ{α:Type}(v:AV)(f:List AV->Option α):Option α:=match v with
 | .tup a=>f a
 | _=>none
noncomputable def Dk:AO->Option (List AV)
 | .list vs=>DJ vs
 | _=>none
noncomputable def Dl:AO->Option (List (AV × AV))
 | .dict vs=>DJ vs
 | _=>none
noncomputable def mF{α:Type}(o:Option AO)(f:List AV->Option α):Option α:=(o.bind Dk).bind f
noncomputable def Br{α:Type}(o:Option AO)(f:List (AV × AV)->Option α):Option α:=(o.bind Dl).bind f
theorem eU{f:AV->Option α}{G:Prop}(h:wL vs f=DJ r)(k:∀ v,vs=[v]->f v=DJ r->G):G:=by
 cases vs with
 | nil=>exact nO h
 | cons v t=>
  cases t with
  | nil=>exact k v rfl h
  | cons _ _=>exact nO h
theorem uO{f:AV->AV->Option α}{G:Prop}(h:Cv vs f=DJ r)(k:∀ v w,vs=[v,w]->f v w=DJ r->G):G:=by
 cases vs with
 | nil=>exact nO h
 | cons v t=>exact eU (vs:=t) h fun w e h=>k v w (e ▸ rfl) h
theorem gw{f:Nat->Option α}{G:Prop}(h:nE v f=DJ r)(k:∀ a,v= .ref a->f a=DJ r->G):G:=by
 cases v<;>first | exact k _ rfl h | exact nO h
theorem cU{f:Int->Option α}{G:Prop}(h:gz v f=DJ r)(k:∀ a,v= .int a->f a=DJ r->G):G:=by
 cases v<;>first | exact k _ rfl h | exact nO h
theorem vG{f:Nm->Option α}{G:Prop}(h:zN v f=DJ r)(k:∀ a,v= .str a->f a=DJ r->G):G:=by
 cases v<;>first | exact k _ rfl h | exact nO h
theorem pG{f:List AV->Option α}{G:Prop}(h:wQ v f=DJ r)(k:∀ a,v= .tup a->f a=DJ r->G):G:=by
 cases v<;>first | exact k _ rfl h | exact nO h
theorem dT{f:List AV->Option α}{G:Prop}(h:mF o f=DJ r)(k:∀ vs,o=DJ (.list vs)->f vs=DJ r->G):G:=by
 cases o with
 | none=>exact nO h
 | some o=>cases o<;>first | exact k _ rfl h | exact nO h
theorem yM{f:List (AV × AV)->Option α}{G:Prop}(h:Br o f=DJ r)(k:∀ vs,o=DJ (.dict vs)->f vs=DJ r->G):G:=by
 cases o with
 | none=>exact nO h
 | some o=>cases o<;>first | exact k _ rfl h | exact nO h
theorem fm(vs)(f:List AV->Option α):mF (DJ (.list vs)) f=f vs:=rfl
theorem wR(vs)(f:List (AV × AV)->Option α):Br (DJ (.dict vs)) f=f vs:=rfl
theorem oL{vs}{f:List AV->Option α}{r}(e:o=DJ (.list vs))(k:f vs=r):mF o f=r:=by subst e;exact k
theorem oD{vs}{f:List (AV × AV)->Option α}{r}(e:o=DJ (.dict vs))(k:f vs=r):Br o f=r:=by subst e;exact k
theorem ifs{c:Prop}[Decidable c]{G:Prop}(h:(if c then x else none)=DJ r)(k:c->x=DJ r->G):G:=by
 by_cases q:c
 ·rewrite [if_pos q]at h;exact k q h
 ·rewrite [if_neg q]at h;exact nO h
theorem lY{f:α->β}{G:Prop}(h:x.map f=DJ r)(k:∀ a,x=DJ a->f a=r->G):G:=by
 cases x with
 | none=>exact nO h
 | some a=>exact k a rfl (EU h)
noncomputable def truthy(h:Hp):AV->Option Bool
 | .none=>DJ false
 | .bool b=>DJ b
 | .int i=>DJ (decide (i≠0))
 | .ref a=>match h[a]? with
  | some (.list vs)=>DJ (!vs.isEmpty)
  | _=> .none
 | _=> .none
inductive D where
 | none
 | int (i:Int)
 | str (s:Nm)
 | tup (ds:List D)
 | list (ds:List D)
set_option genInjectivity true in
set_option genCtorIdx true in
gen_injective_theorems% D
mutual
noncomputable def D.beq:D->D->Bool
 | .none,b=>match b with
  | .none=>true
  | _=>false
 | .int x,b=>match b with
  | .int y=>decide (x=y)
  | _=>false
 | .str x,b=>match b with
  | .str y=>decide (x=y)
  | _=>false
 | .tup x,b=>match b with
  | .tup y=>D.beqL x y
  | _=>false
 | .list x,b=>match b with
  | .list y=>D.beqL x y
  | _=>false
noncomputable def D.beqL:List D->List D->Bool
 | [],b=>b.isEmpty
 | x::xs,b=>match b with
  | y::ys=>D.beq x y&&D.beqL xs ys
  | _=>false
end
mutual
theorem D.beq_refl:∀ a:D,D.beq a a=true
 | .none=>rfl
 | .int _=>decide_eq_true rfl
 | .str _=>decide_eq_true rfl
 | .tup x=>D.beqL_refl x
 | .list x=>D.beqL_refl x
theorem D.beqL_refl:∀ a:List D,D.beqL a a=true
 | []=>rfl
 | x::xs=>and_eq_true (D.beq_refl x) (D.beqL_refl xs)
end
mutual
theorem D.of_beq:∀ {a b:D},D.beq a b=true->a=b
 | .none,b,e=>by cases b<;>first | rfl | exact Ev e
 | .int x,b,e=>by cases b<;>first | exact congrArg _ (of_decide_eq_true e) | exact Ev e
 | .str x,b,e=>by cases b<;>first | exact congrArg _ (of_decide_eq_true e) | exact Ev e
 | .tup x,b,e=>by cases b<;>first | exact congrArg _ (D.of_beqL e) | exact Ev e
 | .list x,b,e=>by cases b<;>first | exact congrArg _ (D.of_beqL e) | exact Ev e
theorem D.of_beqL:∀ {a b:List D},D.beqL a b=true->a=b
 | [],b,e=>by cases b<;>first | rfl | exact Ev e
 | x::xs,b,e=>by
  cases b with
  | nil=>exact Ev e
  | cons y ys=>exact nD (D.of_beq (zL e)) (D.of_beqL (zM e))
end
noncomputable instance:DecidableEq D:=fun a b=>if h:D.beq a b=true then .isTrue (D.of_beq h) else .isFalse fun e=>h (e ▸ D.beq_refl a)
noncomputable def res(h:Hp):Nat->AV->Option D
 | 0,_=> .none
 | n+1,v=>match v with
  | .none=>DJ .none
  | .bool b=>DJ (.int (if b then 1 else 0))
  | .int i=>DJ (.int i)
  | .str s=>DJ (.str s)
  | .tup vs=>(vs.mapM (res h n)).map .tup
  | .ref a=>match h[a]? with
   | some (.list vs)=>(vs.mapM (res h n)).map .list
   | _=> .none
noncomputable def dn:Nat:=24
noncomputable def rZ(h:Hp)(a b:AV):Option Bool:=(res h dn a).bind fun x=>(res h dn b).map fun y=>decide (x=y)
noncomputable def dY:AV->Bool
 | .int _=>true
 | .str _=>true
 | _=>false
noncomputable def bv:AV->Bool
 | .int _=>true
 | .str _=>true
 | .tup vs=>vs.all dY
 | _=>false
noncomputable def br(es:List (AV × AV))(k:AV):Option AV:=match es with
 | []=> .none
 | (a,v)::r=>if a=k then DJ v else br r k
noncomputable def dz(es:List (AV × AV))(k v:AV):List (AV × AV):=match es with
 | []=>[(k,v)]
 | (a,x)::r=>if a=k then (a,v)::r else (a,x)::dz r k v
theorem dC:br ((a,v)::r) k=if a=k then DJ v else br r k:=rfl
theorem wS:br [] k=none:=rfl
theorem ke:dz ((a,x)::r) k v=if a=k then (a,v)::r else (a,x)::dz r k v:=rfl
theorem wT(p:Prop)[Decidable p]:(if p then a+1 else a+1+1)=(if p then a else a+1)+1:=by by_cases h:p;(refine yF (if_pos h) ?_;refine yF (if_pos h) ?_;rfl);(refine yF (if_neg h) ?_;refine yF (if_neg h) ?_;rfl)
noncomputable def qC:Int:=1024
noncomputable def nF:Int:=1024
noncomputable def fw:Int:=4294967296
noncomputable def qD:Int:=256
noncomputable def bo:Nat:=1048576
noncomputable def band(a b:Int):Option Int:=if 0<=a/\0<=b then DJ ((a.toNat &&& b.toNat:Nat):Int) else .none
noncomputable def bor(a b:Int):Option Int:=if 0<=a/\0<=b then DJ ((a.toNat ||| b.toNat:Nat):Int) else .none
noncomputable def bxor(a b:Int):Option Int:=if 0<=a/\0<=b then DJ ((a.toNat ^^^ b.toNat:Nat):Int) else .none
noncomputable def bA:Op->Int->Int->Option Int
 | .add,a,b=>DJ (a+b)
 | .sub,a,b=>DJ (a - b)
 | .mul,a,b=>if 0<=b/\b<fw/\0<=a/\a<fw then DJ (a * b) else .none
 | .fdiv,a,b=>if 0<b/\b<fw then DJ (a / b) else .none
 | .mod,a,b=>if 0<b then DJ (a % b) else .none
 | .pow,a,b=>if a=2/\0<=b/\b<qC then DJ (2 ^ b.toNat) else .none
 | .shl,a,b=>if 0<=b/\b<nF/\0<=a/\a<fw then DJ (a * 2 ^ b.toNat) else .none
 | .shr,a,b=>if 0<=b/\b<nF then DJ (a / 2 ^ b.toNat) else .none
 | .band,a,b=>band a b
 | .bor,a,b=>bor a b
 | .bxor _,a,b=>bxor a b
noncomputable def uP(h:Hp):AV->Option (List AV)
 | .ref a=>match h[a]? with
  | some (.list vs)=>DJ vs
  | _=> .none
 | _=> .none
noncomputable def qE(h:Hp)(o:Op)(a b:AV):Option (AV × Hp):=match a with
 | .int x=>gz b fun y=>(bA o x y).map fun z=>(.int z,h)
 | .str x=>zN b fun y=>if o= .add/\x.length+y.length<bo then DJ (.str (x++y),h) else .none
 | .ref x=>nE b fun y=>mF h[x]? fun xs=>mF h[y]? fun ys=>if o= .add/\xs.length+ys.length<bo then DJ (.ref h.length,h++[.list (xs++ys)]) else .none
 | _=> .none
noncomputable def jl(h:Hp)(o:Op)(a b:AV):Option (AV × Hp):=match a with
 | .int x=>gz b fun y=>(bA o x y).map fun z=>(.int z,h)
 | .ref x=>nE b fun y=>mF h[x]? fun xs=>mF h[y]? fun ys=>if o= .add/\x≠y/\xs.length+ys.length<bo then DJ (.ref x,h.set x (.list (xs++ys))) else .none
 | _=> .none
noncomputable def kf(h:Hp)(x:AV)(vs:List AV):Option Bool:=(res h dn x).bind fun d=>(vs.mapM (res h dn)).map fun ds=>decide (d∈ds)
noncomputable def r6(h:Hp)(x:AV)(vs:List AV):Option Nat:=(res h dn x).bind fun d=>(vs.mapM (res h dn)).bind fun ds=>ds.findIdx? (fun y=>decide (y=d))
noncomputable def bc(h:Hp)(x c:AV):Option Bool:=match c with
 | .ref a=>match h[a]? with
  | some (.list vs)=>kf h x vs
  | some (.dict es)=>if bv x then DJ (br es x).isSome else .none
  | _=> .none
 | _=> .none
noncomputable def nG(h:Hp)(o:B4)(a b:AV):Option Bool:=match o with
 | .eq=>rZ h a b
 | .ne=>(rZ h a b).map (!·)
 | .in_=>bc h a b
 | .notIn=>(bc h a b).map (!·)
 | .lt=>gz a fun x=>gz b fun y=>DJ (decide (x<y))
 | .gt _=>gz a fun x=>gz b fun y=>DJ (decide (x>y))
 | .ge=>gz a fun x=>gz b fun y=>DJ (decide (x≥y))
noncomputable def eM(vs:List AV)(i:Int):Option AV:=
 if 0<=i then vs[i.toNat]? else if 0<=i+vs.length then vs[(i+vs.length).toNat]? else .none
noncomputable def fS(h:Hp)(o i:AV):Option AV:=match o with
 | .tup vs=>match i with
  | .int i=>eM vs i
  | _=> .none
 | .ref a=>match h[a]? with
  | some (.list vs)=>(match i with
   | .int i=>eM vs i
   | _=> .none)
  | some (.dict es)=>if bv i then br es i else .none
  | _=> .none
 | _=> .none
noncomputable def dq(h:Hp)(o i v:AV):Option Hp:=match o with
 | .ref a=>match h[a]? with
  | some (.list vs)=>(match i with
   | .int i=>if 0<=i/\i.toNat<vs.length then DJ (h.set a (.list (vs.set i.toNat v))) else .none
   | _=> .none)
  | some (.dict es)=>if bv i/\es.length<bo then DJ (h.set a (.dict (dz es i v))) else .none
  | _=> .none
 | _=> .none
noncomputable def cj:List Nm:=[[110,97,109,101],[99,111,117,110,116],[105,110,112,117,116,115],[111,117,116,112,117,116,115],[99,101,108,108,115]]
noncomputable def ku(es:List (AV × AV)):Bool:=es.all fun p=>match p.1 with
 | .str s=>cj.contains s
 | _=>false
noncomputable def lZ(h:Hp)(a:Nat):Bool:=match h[a]? with
 | some (.inst d)=>(match h[d]? with
  | some (.dict es)=>ku es
  | _=>false)
 | _=>false
noncomputable def jg(h:Hp)(o:AV)(n:Nm):Option AV:=match o with
 | .ref a=>match h[a]? with
  | some (.inst d)=>match h[d]? with
   | some (.dict es)=>if cj.contains n then br es (.str n) else .none
   | _=> .none
  | _=> .none
 | _=> .none
noncomputable def dI(h:Hp)(o:AV)(n:Nm)(v:AV):Option Hp:=match o with
 | .ref a=>match h[a]? with
  | some (.inst d)=>match h[d]? with
   | some (.dict es)=>if es.length<100/\ku es=true/\cj.contains n=true then DJ (h.set d (.dict (dz es (.str n) v))) else .none
   | _=> .none
  | _=> .none
 | _=> .none
noncomputable def fy(i:Int):Nm:=if i<10 then [48+i.toNat] else if i<100 then [48+i.toNat / 10,48+i.toNat % 10] else [48+i.toNat / 100,48+i.toNat / 10 % 10,48+i.toNat % 10]
noncomputable def gA:List AV->Option (List Int)
 | []=>DJ []
 | .int i::r=>(gA r).map (i:: ·)
 | _::_=> .none
noncomputable def vH:List Int->Option Int
 | []=> .none
 | a::r=>DJ (r.foldl (fun m x=>if x<m then x else m) a)
noncomputable def wU(l:List Int):List Int:=l.foldl (fun acc x=>if acc.any (· == x) then acc else acc++[x]) []
noncomputable def fM(l:List Int):Nat:=(wU l).length
noncomputable def pH(h:Hp)(b:BI)(vs:List AV):Option (AV × Hp):=match b with
 | .len=>wL vs fun v=>match v with
  | .tup vs=>DJ (.int vs.length,h)
  | .ref a=>mF h[a]? fun vs=>DJ (.int vs.length,h)
  | _=> .none
 | .list=>wL vs fun v=>nE v fun a=>mF h[a]? fun vs=>DJ (.ref h.length,h++[.list vs])
 | .tuple=>wL vs fun v=>nE v fun a=>mF h[a]? fun vs=>DJ (.tup vs,h)
 | .sum=>wL vs fun v=>nE v fun a=>mF h[a]? fun vs=>(gA vs).map fun is=>(.int is.sum,h)
 | .min1=>wL vs fun v=>wQ v fun vs=>(gA vs).bind fun is=>(vH is).map fun m=>(.int m,h)
 | .min2=>Cv vs fun x y=>gz x fun a=>gz y fun b=>DJ (.int (if b<a then b else a),h)
 | .str=>wL vs fun v=>gz v fun i=>if 0<=i/\i<qD then DJ (.str (fy i),h) else .none
 | .lenset _=>wL vs fun v=>wQ v fun vs=>if vs.length<100 then (gA vs).map fun is=>(.int (fM is),h) else .none
noncomputable def r7(h:Hp)(m:Me)(o:AV):Bool:=match o with
 | .ref a=>(match h[a]? with
  | some (.list _)=>(match m with
   | .get=>false
   | _=>true)
  | some (.dict _)=>(match m with
   | .get=>true
   | _=>false)
  | _=>false)
 | _=>false
noncomputable def wV(h:Hp)(m:Me)(o:AV)(vs:List AV):Option (AV × Hp):=nE o fun a=>match m with
 | .append=>mF h[a]? fun xs=>wL vs fun v=>if xs.length<bo then DJ (.none,h.set a (.list (xs++[v]))) else .none
 | .extend=>mF h[a]? fun xs=>wL vs fun v=>match v with
  | .tup ys=>if xs.length+ys.length<bo then DJ (.none,h.set a (.list (xs++ys))) else .none
  | .ref b=>mF h[b]? fun ys=>if a≠b/\xs.length+ys.length<bo then DJ (.none,h.set a (.list (xs++ys))) else .none
  | _=> .none
 | .pop=>mF h[a]? fun xs=>if vs.isEmpty then xs.getLast?.map fun v=>(v,h.set a (.list xs.dropLast)) else .none
 | .index _=>mF h[a]? fun xs=>wL vs fun v=>(r6 h v xs).map fun (i:Nat)=>(AV.int i,h)
 | .get=>Br h[a]? fun es=>Cv vs fun k d=>if bv k then DJ ((br es k).getD d,h) else .none
noncomputable def fz:List AV->Option (List (AV × AV))
 | []=>DJ []
 | k::v::r=>if bv k then (fz r).map ((k,v):: ·) else .none
 | [_]=> .none
noncomputable def bg(ps:List (AV × AV)):List (AV × AV):=ps.foldl (fun es p=>dz es p.1 p.2) []
noncomputable def iE:AV × AV->Bool
 | (.str _,_)=>true
 | _=>false
noncomputable def bZ(h:Hp)(rng:Bool)(v:AV):Option (List AV × Option (Nat × AO)):=match rng with
 | true=>gz v fun n=>if 0<=n/\n<bo then DJ ((Ec n.toNat).map fun (i:Nat)=> .int i,.none) else .none
 | false=>match v with
  | .tup vs=>DJ (vs,.none)
  | .ref a=>match h[a]? with
   | some (.list vs)=>DJ (vs,DJ (a,.list vs))
   | some (.dict es)=>if es.all iE then DJ (es.map (·.1),DJ (a,.dict es)) else .none
   | _=> .none
  | _=> .none
theorem l7(h:Hp)(a:Nat):bZ h false (.ref a)=match h[a]? with
 | some (.list vs)=>DJ (vs,DJ (a,.list vs))
 | some (.dict es)=>if es.all iE then DJ (es.map (·.1),DJ (a,.dict es)) else .none
 | _=> .none:=rfl
noncomputable def av(h:Hp):Option (Nat × AO)->Bool
 | .none=>true
 | some (a,o)=> @decide _ (Classical.propDecidable (h[a]? =DJ o))
noncomputable def eV:aZ->List Nat->List AV->Option aZ
 | c,[],vs=>match vs with
  | []=>DJ c
  | _::_=> .none
 | c,i::is,vs=>match vs with
  | []=> .none
  | v::vs=>if i<c.length then eV (c.set i (DJ v)) is vs else .none
noncomputable def bp(c:aZ)(t:rW)(v:AV):Option aZ:=match t with
 | .one i=>if i<c.length then DJ (c.set i (DJ v)) else .none
 | .many is=>match v with
  | .tup vs=>eV c is vs
  | _=> .none
abbrev aR:=Nat->List AV->Hp->Option (AV × Hp)
noncomputable def eW{σ:Type}(hp:σ->Hp)(g:Option (Nat × AO))(f:σ->AV->Option σ):List AV->σ->Option σ
 | [],s=>if av (hp s) g then DJ s else .none
 | v::vs,s=>if av (hp s) g then (match f s v with
  | some s'=>eW hp g f vs s'
  | .none=> .none) else .none
mutual
noncomputable def aC(cl:aR):E->aZ->aZ->Hp->Option (AV × Hp)
 | .const v,_,_,h=>DJ (v,h)
 | .loc i,m,c,h=>match (if c.isEmpty then m else c)[i]? with
  | some (DJ v)=>DJ (v,h)
  | _=> .none
 | .free i,m,_,h=>match m[i]? with
  | some (DJ v)=>DJ (v,h)
  | _=> .none
 | .bin o a b,m,c,h=>do
  let (x,h) <- aC cl a m c h
  let (y,h) <- aC cl b m c h
  qE h o x y
 | .neg a,m,c,h=>do
  let (x,h) <- aC cl a m c h
  match x with
  | .int i=>DJ (.int (-i),h)
  | _=> .none
 | .not a,m,c,h=>do
  let (x,h) <- aC cl a m c h
  let b <- truthy h x
  return (.bool (!b),h)
 | .bop isAnd es,m,c,h=>yN cl isAnd es m c h
 | .cmp o a b,m,c,h=>do
  let (x,h) <- aC cl a m c h
  let (y,h) <- aC cl b m c h
  let r <- nG h o x y
  return (.bool r,h)
 | .ite t a b,m,c,h=>do
  let (x,h) <- aC cl t m c h
  let r <- truthy h x
  if r then aC cl a m c h else aC cl b m c h
 | .tup es,m,c,h=>do
  let (vs,h) <- iP cl es m c h
  return (.tup vs,h)
 | .list es,m,c,h=>do
  let (vs,h) <- iP cl es m c h
  return (.ref h.length,h++[.list vs])
 | .dict kvs,m,c,h=>do
  let (vs,h) <- iP cl kvs m c h
  let ps <- fz vs
  return (.ref h.length,h++[.dict (bg ps)])
 | .attr o n,m,c,h=>do
  let (x,h) <- aC cl o m c h
  let v <- jg h x n
  return (v,h)
 | .sub o i,m,c,h=>do
  let (x,h) <- aC cl o m c h
  let (y,h) <- aC cl i m c h
  let v <- fS h x y
  return (v,h)
 | .slice o n,m,c,h=>do
  let (x,h) <- aC cl o m c h
  let vs <- uP h x
  return (.ref h.length,h++[.list (vs.take n)])
 | .call f es,m,c,h=>do
  let (vs,h) <- iP cl es m c h
  cl f vs h
 | .new es,m,c,h=>do
  let (vs,h) <- iP cl es m c h
  let (r,h') <- cl 0 (.ref (h.length+1)::vs) (h++[.dict [],.inst h.length])
  match r with
  | .none=>DJ (.ref (h.length+1),h')
  | _=> .none
 | .meth o f es,m,c,h=>do
  let (x,h) <- aC cl o m c h
  match x with
  | .ref a=>if lZ h a then do
    let (vs,h) <- iP cl es m c h
    cl f (x::vs) h else .none
  | _=> .none
 | .bi b es,m,c,h=>do
  let (vs,h) <- iP cl es m c h
  pH h b vs
 | .bm b o es,m,c,h=>do
  let (x,h) <- aC cl o m c h
  if r7 h b x then do
   let (vs,h) <- iP cl es m c h
   wV h b x vs else .none
 | .comp k t rng it g,m,c,h=>do
  let (x,h) <- aC cl it m c h
  let (vs,gd) <- bZ h rng x
  let (_,h,acc) <- eW (fun s=>s.2.1) gd (fun (s:aZ × Hp × List AV) v=>do
   let c' <- bp s.1 t v
   m8 cl g m c' s.2.1 s.2.2) vs (D0 k .none,h,[])
  return (.ref h.length,h++[.list acc])
noncomputable def iP(cl:aR):List E->aZ->aZ->Hp->Option (List AV × Hp)
 | [],_,_,h=>DJ ([],h)
 | e::es,m,c,h=>do
  let (v,h) <- aC cl e m c h
  let (vs,h) <- iP cl es m c h
  return (v::vs,h)
noncomputable def yN(cl:aR)(isAnd:Bool):List E->aZ->aZ->Hp->Option (AV × Hp)
 | [],_,_,_=> .none
 | [e],m,c,h=>aC cl e m c h
 | e::es,m,c,h=>do
  let (v,h) <- aC cl e m c h
  let t <- truthy h v
  if t=isAnd then yN cl isAnd es m c h else DJ (v,h)
noncomputable def m8(cl:aR):G->aZ->aZ->Hp->List AV->Option (aZ × Hp × List AV)
 | .elt e,m,c,h,acc=>do
  let (v,h) <- aC cl e m c h
  if acc.length<bo then DJ (c,h,acc++[v]) else .none
 | .if_ e g,m,c,h,acc=>do
  let (v,h) <- aC cl e m c h
  let t <- truthy h v
  if t then m8 cl g m c h acc else DJ (c,h,acc)
 | .for_ t rng it g,m,c,h,acc=>do
  let (x,h) <- aC cl it m c h
  let (vs,gd) <- bZ h rng x
  eW (fun s=>s.2.1) gd (fun (s:aZ × Hp × List AV) v=>do
   let c' <- bp s.1 t v
   m8 cl g m c' s.2.1 s.2.2) vs (c,h,acc)
end
noncomputable def eX(test:aZ->Hp->Option (Bool × Hp))(body:aZ->Hp->Option (Fl × aZ × Hp)):Nat->aZ->Hp->Option (Fl × aZ × Hp)
 | 0,_,_=> .none
 | n+1,m,h=>match test m h with
  | some (true,h)=>match body m h with
   | some (.ret v,m,h)=>DJ (.ret v,m,h)
   | some (_,m,h)=>eX test body n m h
   | .none=> .none
  | some (false,h)=>DJ (.next,m,h)
  | .none=> .none
noncomputable def gC(gd:Option (Nat × AO))(t:rW)(body:aZ->Hp->Option (Fl × aZ × Hp)):List AV->aZ->Hp->Option (Fl × aZ × Hp)
 | [],m,h=>if av h gd then DJ (.next,m,h) else .none
 | v::vs,m,h=>if av h gd then (match bp m t v with
  | some m=>match body m h with
   | some (.ret v,m,h)=>DJ (.ret v,m,h)
   | some (_,m,h)=>gC gd t body vs m h
   | .none=> .none
  | .none=> .none) else .none
noncomputable def f9(cl:aR)(e:E)(m:aZ)(h:Hp):Option (Bool × Hp):=do
 let (v,h) <- aC cl e m [] h
 let t <- truthy h v
 return (t,h)
mutual
noncomputable def mG(cl:aR)(W:Nat):S->aZ->Hp->Option (Fl × aZ × Hp)
 | .assign t e,m,h=>do
  let (v,h) <- aC cl e m [] h
  let m <- bp m t v
  return (.next,m,h)
 | .setAttr o n e,m,h=>do
  let (v,h) <- aC cl e m [] h
  let (x,h) <- aC cl o m [] h
  let h <- dI h x n v
  return (.next,m,h)
 | .setSub o i e,m,h=>do
  let (v,h) <- aC cl e m [] h
  let (x,h) <- aC cl o m [] h
  let (y,h) <- aC cl i m [] h
  let h <- dq h x y v
  return (.next,m,h)
 | .augLoc i op e,m,h=>do
  let (x,h) <- aC cl (.loc i) m [] h
  let (v,h) <- aC cl e m [] h
  let (r,h) <- jl h op x v
  let m <- bp m (.one i) r
  return (.next,m,h)
 | .augAttr o n op e,m,h=>do
  let (x,h) <- aC cl o m [] h
  let old <- jg h x n
  let (v,h) <- aC cl e m [] h
  let (r,h) <- jl h op old v
  let h <- dI h x n r
  return (.next,m,h)
 | .augSub o i op e,m,h=>do
  let (x,h) <- aC cl o m [] h
  let (y,h) <- aC cl i m [] h
  let old <- fS h x y
  let (v,h) <- aC cl e m [] h
  let (r,h) <- jl h op old v
  let h <- dq h x y r
  return (.next,m,h)
 | .expr e,m,h=>do
  let (_,h) <- aC cl e m [] h
  return (.next,m,h)
 | .ret e,m,h=>do
  let (v,h) <- aC cl e m [] h
  return (.ret v,m,h)
 | .ite t b o,m,h=>do
  let (r,h) <- f9 cl t m h
  if r then cF cl W b m h else cF cl W o m h
 | .while_ t b,m,h=>eX (f9 cl t) (fun m h=>cF cl W b m h) W m h
 | .for_ t rng it b,m,h=>do
  let (x,h) <- aC cl it m [] h
  let (vs,gd) <- bZ h rng x
  gC gd t (fun m h=>cF cl W b m h) vs m h
 | .cont,m,h=>DJ (.cont,m,h)
 | .pass,m,h=>DJ (.next,m,h)
 | .fail,_,_=> .none
noncomputable def cF(cl:aR)(W:Nat):List S->aZ->Hp->Option (Fl × aZ × Hp)
 | [],m,h=>DJ (.next,m,h)
 | s::ss,m,h=>do
  let (f,m,h) <- mG cl W s m h
  match f with
  | .next=>cF cl W ss m h
  | f=>DJ (f,m,h)
end
noncomputable def ad(P:Nat->Option Fn)(W:Nat):Nat->aR
 | 0,_,_,_=> .none
 | n+1,f,vs,h=>match P f with
  | some fn=>if vs.length=fn.np then (match cF (ad P W n) W fn.body (vs.map DJ++D0 (fn.nl - fn.np) .none) h with
   | some (.ret v,_,h)=>DJ (v,h)
   | some (_,_,h)=>DJ (.none,h)
   | .none=> .none) else .none
  | .none=> .none
noncomputable def gD:Fn:={ np:=2,nl:=2,body:=[
 .setAttr (.loc 0) [110,97,109,101] (.loc 1),
 .setAttr (.loc 0) [99,111,117,110,116] (.const (.int 2)),
 .setAttr (.loc 0) [105,110,112,117,116,115] (.list []),
 .setAttr (.loc 0) [111,117,116,112,117,116,115] (.list []),
 .setAttr (.loc 0) [99,101,108,108,115] (.list [])] }
noncomputable def fU:Fn:={ np:=1,nl:=1,body:=[
 .ret (.bop false [(.cmp .eq (.loc 0) (.const (.str [102,108,111,112]))),(.cmp .eq (.loc 0) (.const (.str [108,97,116,99,104])))])] }
noncomputable def eY:Fn:={ np:=1,nl:=2,body:=[
 .assign (.one 1) (.attr (.loc 0) [99,111,117,110,116]),
 .augAttr (.loc 0) [99,111,117,110,116] .add (.const (.int 1)),
 .ret (.loc 1)] }
noncomputable def bR:Fn:={ np:=2,nl:=2,body:=[
 .ret (.comp 1 (.one 0) true (.loc 1) (.elt (.meth (.free 0) 2 [])))] }
noncomputable def dZ:Fn:={ np:=3,nl:=4,body:=[
 .assign (.one 3) (.meth (.loc 0) 3 [(.loc 2)]),
 .expr (.bm .append (.attr (.loc 0) [105,110,112,117,116,115]) [(.tup [(.loc 1),(.bi .list [(.loc 3)])])]),
 .ret (.loc 3)] }
noncomputable def dJ:Fn:={ np:=3,nl:=3,body:=[
 .expr (.bm .append (.attr (.loc 0) [111,117,116,112,117,116,115]) [(.tup [(.loc 1),(.bi .list [(.loc 2)])])])] }
noncomputable def eE:Fn:={ np:=4,nl:=5,body:=[
 .assign (.one 4) (.meth (.loc 0) 2 []),
 .expr (.meth (.loc 0) 7 [(.loc 4),(.loc 1),(.loc 2),(.loc 3)]),
 .ret (.loc 4)] }
noncomputable def fV:Fn:={ np:=5,nl:=5,body:=[
 .expr (.bm .append (.attr (.loc 0) [99,101,108,108,115]) [(.tup [(.loc 2),(.loc 1),(.bi .tuple [(.loc 3)]),(.loc 4)])])] }
noncomputable def lc:Fn:={ np:=1,nl:=5,body:=[
 .assign (.one 1) (.list []),
 .for_ (.many [2,3]) false (.attr (.loc 0) [105,110,112,117,116,115]) [.expr (.bm .extend (.loc 1) [(.loc 3)])],
 .for_ (.one 4) false (.attr (.loc 0) [99,101,108,108,115]) [.ite (.call 1 [(.sub (.loc 4) (.const (.int 0)))]) [.expr (.bm .append (.loc 1) [(.sub (.loc 4) (.const (.int 1)))])] []],
 .ret (.loc 1)] }
noncomputable def ii:Fn:={ np:=1,nl:=3,body:=[
 .assign (.one 1) (.list []),
 .for_ (.one 2) true (.bi .len [(.attr (.loc 0) [99,101,108,108,115])]) [.ite (.call 1 [(.sub (.sub (.attr (.loc 0) [99,101,108,108,115]) (.loc 2)) (.const (.int 0)))]) [.expr (.bm .append (.loc 1) [(.loc 2)])] []],
 .ret (.loc 1)] }
noncomputable def ma:Fn:={ np:=1,nl:=7,body:=[
 .assign (.one 1) (.dict [(.const (.int 0)),(.const (.bool true)),(.const (.int 1)),(.const (.bool true))]),
 .for_ (.many [2,3]) false (.attr (.loc 0) [105,110,112,117,116,115]) [.for_ (.one 4) false (.loc 3) [.ite (.cmp .in_ (.loc 4) (.loc 1)) [.fail] [],.setSub (.loc 1) (.loc 4) (.const (.bool true))]],
 .assign (.one 5) (.dict []),
 .for_ (.one 6) true (.bi .len [(.attr (.loc 0) [99,101,108,108,115])]) [.assign (.one 4) (.sub (.sub (.attr (.loc 0) [99,101,108,108,115]) (.loc 6)) (.const (.int 1))),.ite (.cmp .in_ (.loc 4) (.loc 1)) [.fail] [],.setSub (.loc 1) (.loc 4) (.const (.bool true)),.setSub (.loc 5) (.loc 4) (.loc 6)],
 .ret (.loc 5)] }
noncomputable def fX:Fn:={ np:=2,nl:=11,body:=[
 .assign (.one 2) (.attr (.loc 0) [99,101,108,108,115]),
 .assign (.one 3) (.dict []),
 .assign (.one 4) (.dict []),
 .assign (.one 5) (.list []),
 .for_ (.one 6) true (.bi .len [(.loc 2)]) [.ite (.call 1 [(.sub (.sub (.loc 2) (.loc 6)) (.const (.int 0)))]) [.cont] [],.assign (.one 7) (.const (.int 0)),.for_ (.one 8) false (.sub (.sub (.loc 2) (.loc 6)) (.const (.int 2))) [.assign (.one 9) (.bm .get (.loc 1) [(.loc 8),(.neg (.const (.int 1)))]),.ite (.bop true [(.cmp .ge (.loc 9) (.const (.int 0))),(.not (.call 1 [(.sub (.sub (.loc 2) (.loc 9)) (.const (.int 0)))]))]) [.augLoc 7 .add (.const (.int 1)),.ite (.cmp .notIn (.loc 9) (.loc 4)) [.setSub (.loc 4) (.loc 9) (.list [])] [],.expr (.bm .append (.sub (.loc 4) (.loc 9)) [(.loc 6)])] []],.setSub (.loc 3) (.loc 6) (.loc 7),.ite (.cmp .eq (.loc 7) (.const (.int 0))) [.expr (.bm .append (.loc 5) [(.loc 6)])] []],
 .assign (.one 10) (.const (.int 0)),
 .while_ (.cmp .lt (.loc 10) (.bi .len [(.loc 5)])) [.for_ (.one 6) false (.bm .get (.loc 4) [(.sub (.loc 5) (.loc 10)),(.list [])]) [.augSub (.loc 3) (.loc 6) .sub (.const (.int 1)),.ite (.cmp .eq (.sub (.loc 3) (.loc 6)) (.const (.int 0))) [.expr (.bm .append (.loc 5) [(.loc 6)])] []],.augLoc 10 .add (.const (.int 1))],
 .ret (.loc 5)] }
noncomputable def iQ:Fn:={ np:=1,nl:=2,body:=[
 .assign (.one 1) (.call 11 [(.loc 0),(.call 10 [(.loc 0)])]),
 .ite (.cmp .lt (.bin .add (.bi .len [(.loc 1)]) (.bi .len [(.call 9 [(.loc 0)])])) (.bi .len [(.attr (.loc 0) [99,101,108,108,115])])) [.fail] [],
 .ret (.loc 1)] }
noncomputable def iR:Fn:={ np:=1,nl:=3,body:=[
 .assign (.one 1) (.const (.int 0)),
 .for_ (.one 2) true (.bi .len [(.loc 0)]) [.ite (.sub (.loc 0) (.loc 2)) [.augLoc 1 .add (.bin .shl (.const (.int 1)) (.loc 2))] []],
 .ret (.loc 1)] }
noncomputable def qF:Fn:={ np:=1,nl:=1,body:=[
 .ret (.bin .sub (.bin .shl (.const (.int 1)) (.bin .shl (.const (.int 1)) (.loc 0))) (.const (.int 1)))] }
noncomputable def r8:Fn:={ np:=2,nl:=3,body:=[
 .assign (.one 2) (.call 14 [(.loc 1)]),
 .ret (.bin (.bxor ()) (.loc 2) (.bin .fdiv (.loc 2) (.bin .add (.bin .shl (.const (.int 1)) (.bin .shl (.const (.int 1)) (.loc 0))) (.const (.int 1)))))] }
noncomputable def kv:Fn:={ np:=4,nl:=6,body:=[
 .assign (.one 4) (.bin .band (.loc 0) (.call 15 [(.loc 1),(.loc 3)])),
 .ite (.cmp .eq (.loc 2) (.const (.int 1))) [.ret (.bin .bor (.loc 4) (.bin .shr (.loc 4) (.bin .shl (.const (.int 1)) (.loc 1))))] [],
 .assign (.one 5) (.bin (.bxor ()) (.loc 0) (.loc 4)),
 .ret (.bin .bor (.loc 5) (.bin .shl (.loc 5) (.bin .shl (.const (.int 1)) (.loc 1))))] }
noncomputable def md:Fn:={ np:=3,nl:=3,body:=[
 .ret (.cmp .ne (.call 16 [(.loc 0),(.loc 1),(.const (.int 0)),(.loc 2)]) (.call 16 [(.loc 0),(.loc 1),(.const (.int 1)),(.loc 2)]))] }
noncomputable def mf:Fn:={ np:=2,nl:=4,body:=[
 .assign (.one 2) (.list []),
 .for_ (.one 3) true (.loc 1) [.ite (.call 17 [(.loc 0),(.loc 3),(.loc 1)]) [.expr (.bm .append (.loc 2) [(.loc 3)])] []],
 .ret (.loc 2)] }
noncomputable def nH:Fn:={ np:=2,nl:=4,body:=[
 .assign (.one 2) (.const (.int 0)),
 .for_ (.one 3) true (.bi .len [(.loc 1)]) [.augLoc 2 .bor (.bin .shl (.bin .band (.bin .shr (.loc 0) (.loc 3)) (.const (.int 1))) (.sub (.loc 1) (.loc 3)))],
 .ret (.loc 2)] }
noncomputable def nJ:Fn:={ np:=2,nl:=5,body:=[
 .assign (.one 2) (.call 18 [(.loc 0),(.loc 1)]),
 .assign (.one 3) (.const (.int 0)),
 .for_ (.one 4) true (.bin .shl (.const (.int 1)) (.bi .len [(.loc 2)])) [.augLoc 3 .bor (.bin .shl (.bin .band (.bin .shr (.loc 0) (.call 19 [(.loc 4),(.loc 2)])) (.const (.int 1))) (.loc 4))],
 .ret (.tup [(.loc 3),(.loc 2)])] }
noncomputable def jm:Fn:={ np:=2,nl:=2,body:=[
 .while_ (.cmp .in_ (.loc 1) (.loc 0)) [.assign (.one 1) (.sub (.loc 0) (.loc 1))],
 .ret (.loc 1)] }
noncomputable def fY:Fn:={ np:=3,nl:=10,body:=[
 .assign (.one 3) (.new [(.attr (.loc 0) [110,97,109,101])]),
 .setAttr (.loc 3) [99,111,117,110,116] (.attr (.loc 0) [99,111,117,110,116]),
 .for_ (.many [4,5]) false (.attr (.loc 0) [105,110,112,117,116,115]) [.expr (.bm .append (.attr (.loc 3) [105,110,112,117,116,115]) [(.tup [(.loc 4),(.bi .list [(.loc 5)])])])],
 .for_ (.many [6,7,8,9]) false (.loc 1) [.ite (.cmp .notIn (.loc 7) (.loc 2)) [.expr (.meth (.loc 3) 7 [(.loc 7),(.loc 6),(.comp 1 (.one 0) false (.loc 8) (.elt (.call 21 [(.free 2),(.loc 0)]))),(.loc 9)])] []],
 .for_ (.many [4,5]) false (.attr (.loc 0) [111,117,116,112,117,116,115]) [.expr (.meth (.loc 3) 5 [(.loc 4),(.comp 1 (.one 0) false (.loc 5) (.elt (.call 21 [(.free 2),(.loc 0)])))])],
 .ret (.loc 3)] }
noncomputable def mh:Fn:={ np:=2,nl:=2,body:=[
 .ret (.call 22 [(.loc 0),(.attr (.loc 0) [99,101,108,108,115]),(.loc 1)])] }
noncomputable def kw:Fn:={ np:=3,nl:=3,body:=[
 .ite (.bop false [(.cmp .eq (.loc 0) (.const (.int 0))),(.cmp .eq (.loc 1) (.const (.int 0))),(.loc 2)]) [.ret (.tup [(.const (.str [98,117,102])),(.tup [(.const (.int 0))])])] [],
 .ite (.bop false [(.cmp .eq (.loc 0) (.const (.int 1))),(.cmp .eq (.loc 0) (.loc 1))]) [.ret (.tup [(.const (.str [98,117,102])),(.tup [(.loc 1)])])] [],
 .ite (.cmp .eq (.loc 1) (.const (.int 1))) [.ret (.tup [(.const (.str [98,117,102])),(.tup [(.loc 0)])])] [],
 .ret (.tup [(.const (.str [97,110,100])),(.tup [(.loc 0),(.loc 1)])])] }
noncomputable def mi:Fn:={ np:=3,nl:=3,body:=[
 .ite (.bop false [(.cmp .eq (.loc 0) (.const (.int 1))),(.cmp .eq (.loc 1) (.const (.int 1))),(.loc 2)]) [.ret (.tup [(.const (.str [98,117,102])),(.tup [(.const (.int 1))])])] [],
 .ite (.bop false [(.cmp .eq (.loc 0) (.const (.int 0))),(.cmp .eq (.loc 0) (.loc 1))]) [.ret (.tup [(.const (.str [98,117,102])),(.tup [(.loc 1)])])] [],
 .ite (.cmp .eq (.loc 1) (.const (.int 0))) [.ret (.tup [(.const (.str [98,117,102])),(.tup [(.loc 0)])])] [],
 .ret (.tup [(.const (.str [111,114])),(.tup [(.loc 0),(.loc 1)])])] }
noncomputable def kz:Fn:={ np:=3,nl:=3,body:=[
 .ite (.cmp .eq (.loc 0) (.loc 1)) [.ret (.tup [(.const (.str [98,117,102])),(.tup [(.const (.int 0))])])] [],
 .ite (.loc 2) [.ret (.tup [(.const (.str [98,117,102])),(.tup [(.const (.int 1))])])] [],
 .ite (.cmp .eq (.loc 0) (.const (.int 0))) [.ret (.tup [(.const (.str [98,117,102])),(.tup [(.loc 1)])])] [],
 .ite (.cmp .eq (.loc 1) (.const (.int 0))) [.ret (.tup [(.const (.str [98,117,102])),(.tup [(.loc 0)])])] [],
 .ite (.cmp .eq (.loc 0) (.const (.int 1))) [.ret (.tup [(.const (.str [110,111,116])),(.tup [(.loc 1)])])] [],
 .ite (.cmp .eq (.loc 1) (.const (.int 1))) [.ret (.tup [(.const (.str [110,111,116])),(.tup [(.loc 0)])])] [],
 .ret (.tup [(.const (.str [120,111,114])),(.tup [(.loc 0),(.loc 1)])])] }
noncomputable def ij:Fn:={ np:=1,nl:=3,body:=[
 .assign (.many [1,2]) (.loc 0),
 .ite (.cmp .eq (.loc 1) (.const (.str [98,117,102]))) [.ite (.bop false [(.cmp .eq (.sub (.loc 2) (.const (.int 0))) (.const (.int 0))),(.cmp .eq (.sub (.loc 2) (.const (.int 0))) (.const (.int 1)))]) [.ret (.tup [(.const (.str [98,117,102])),(.tup [(.bin .sub (.const (.int 1)) (.sub (.loc 2) (.const (.int 0))))])])] [],.ret (.tup [(.const (.str [110,111,116])),(.loc 2)])] [],
 .ite (.cmp .eq (.loc 1) (.const (.str [110,111,116]))) [.ret (.tup [(.const (.str [98,117,102])),(.loc 2)])] [],
 .ite (.cmp .eq (.loc 1) (.const (.str [97,110,100]))) [.ret (.tup [(.const (.str [110,97,110,100])),(.loc 2)])] [],
 .ite (.cmp .eq (.loc 1) (.const (.str [111,114]))) [.ret (.tup [(.const (.str [110,111,114])),(.loc 2)])] [],
 .ret (.tup [(.const (.str [120,110,111,114])),(.loc 2)])] }
noncomputable def jn:Fn:={ np:=4,nl:=4,body:=[
 .ite (.cmp .eq (.loc 0) (.const (.str [97,110,100]))) [.ret (.call 24 [(.loc 1),(.loc 2),(.loc 3)])] [],
 .ite (.cmp .eq (.loc 0) (.const (.str [110,97,110,100]))) [.ret (.call 27 [(.call 24 [(.loc 1),(.loc 2),(.loc 3)])])] [],
 .ite (.cmp .eq (.loc 0) (.const (.str [111,114]))) [.ret (.call 25 [(.loc 1),(.loc 2),(.loc 3)])] [],
 .ite (.cmp .eq (.loc 0) (.const (.str [110,111,114]))) [.ret (.call 27 [(.call 25 [(.loc 1),(.loc 2),(.loc 3)])])] [],
 .ite (.cmp .eq (.loc 0) (.const (.str [120,111,114]))) [.ret (.call 26 [(.loc 1),(.loc 2),(.loc 3)])] [],
 .ret (.call 27 [(.call 26 [(.loc 1),(.loc 2),(.loc 3)])])] }
noncomputable def ik:Fn:={ np:=3,nl:=3,body:=[
 .ite (.bop false [(.cmp .eq (.loc 0) (.const (.int 0))),(.cmp .eq (.loc 1) (.loc 2))]) [.ret (.tup [(.const (.str [98,117,102])),(.tup [(.loc 1)])])] [],
 .ite (.cmp .eq (.loc 0) (.const (.int 1))) [.ret (.tup [(.const (.str [98,117,102])),(.tup [(.loc 2)])])] [],
 .ite (.bop true [(.cmp .eq (.loc 1) (.const (.int 0))),(.cmp .eq (.loc 2) (.const (.int 1)))]) [.ret (.tup [(.const (.str [98,117,102])),(.tup [(.loc 0)])])] [],
 .ite (.bop true [(.cmp .eq (.loc 1) (.const (.int 1))),(.cmp .eq (.loc 2) (.const (.int 0)))]) [.ret (.tup [(.const (.str [110,111,116])),(.tup [(.loc 0)])])] [],
 .ret (.tup [(.const (.str [109,117,120])),(.tup [(.loc 0),(.loc 1),(.loc 2)])])] }
noncomputable def jo:Fn:={ np:=3,nl:=3,body:=[
 .ite (.bop false [(.cmp .eq (.loc 0) (.const (.int 0))),(.cmp .eq (.loc 0) (.const (.int 1)))]) [.ret (.loc 0)] [],
 .ret (.bin .band (.bin .shr (.loc 2) (.bm (.index ()) (.loc 1) [(.loc 0)])) (.const (.int 1)))] }
noncomputable def iS:Fn:={ np:=3,nl:=6,body:=[
 .assign (.one 3) (.const (.int 0)),
 .for_ (.one 4) true (.bin .shl (.const (.int 1)) (.bi .len [(.loc 2)])) [.assign (.one 5) (.comp 1 (.one 0) false (.loc 1) (.elt (.call 30 [(.loc 0),(.free 2),(.free 4)]))),.ite (.bin .band (.bin .shr (.loc 0) (.call 13 [(.loc 5)])) (.const (.int 1))) [.augLoc 3 .add (.bin .shl (.const (.int 1)) (.loc 4))] []],
 .ret (.loc 3)] }
noncomputable def iT:Fn:={ np:=2,nl:=7,body:=[
 .assign (.one 2) (.list []),
 .for_ (.one 3) false (.loc 1) [.ite (.bop true [(.cmp (.gt ()) (.loc 3) (.const (.int 1))),(.cmp .notIn (.loc 3) (.loc 2))]) [.expr (.bm .append (.loc 2) [(.loc 3)])] []],
 .assign (.many [4,5]) (.call 20 [(.call 31 [(.loc 0),(.loc 1),(.loc 2)]),(.bi .len [(.loc 2)])]),
 .assign (.one 6) (.bi .tuple [(.comp 1 (.one 0) false (.loc 5) (.elt (.sub (.free 2) (.loc 0))))]),
 .ite (.cmp .eq (.bi .len [(.loc 6)]) (.const (.int 0))) [.ret (.tup [(.const (.str [98,117,102])),(.tup [(.bin .band (.loc 4) (.const (.int 1)))]),(.const .none)])] [],
 .ite (.cmp .eq (.bi .len [(.loc 6)]) (.const (.int 1))) [.ret (.tup [(.ite (.cmp .eq (.loc 4) (.const (.int 2))) (.const (.str [98,117,102])) (.const (.str [110,111,116]))),(.loc 6),(.const .none)])] [],
 .ret (.tup [(.const (.str [108,117,116])),(.loc 6),(.loc 4)])] }
noncomputable def gF:Fn:={ np:=3,nl:=3,body:=[
 .ret (.bop false [(.cmp .eq (.bm .get (.loc 0) [(.loc 1),(.neg (.const (.int 1)))]) (.loc 2)),(.cmp .eq (.bm .get (.loc 0) [(.loc 2),(.neg (.const (.int 1)))]) (.loc 1))])] }
noncomputable def gG:Fn:={ np:=2,nl:=5,body:=[
 .assign (.many [2,3,4]) (.call 32 [(.sub (.loc 1) (.const (.int 1))),(.loc 0)]),
 .ite (.cmp .eq (.loc 2) (.const (.str [108,117,116]))) [.ret (.tup [(.const (.str [99,101,108,108])),(.loc 0),(.loc 1)])] [],
 .ret (.tup [(.loc 2),(.loc 3),(.const .none)])] }
noncomputable def il:Fn:={ np:=3,nl:=5,body:=[
 .assign (.one 3) (.sub (.loc 0) (.const (.int 0))),
 .assign (.one 4) (.const .none),
 .ite (.cmp .eq (.loc 3) (.const (.str [108,117,116]))) [.assign (.many [3,1,4]) (.call 32 [(.sub (.loc 0) (.const (.int 3))),(.loc 1)])] [.ite (.cmp .eq (.loc 3) (.const (.str [99,101,108,108]))) [.assign (.many [3,1,4]) (.call 34 [(.loc 1),(.sub (.loc 0) (.const (.int 3)))])] [.ite (.cmp .eq (.loc 3) (.const (.str [109,117,120]))) [.assign (.many [3,1]) (.call 29 [(.sub (.loc 1) (.const (.int 0))),(.sub (.loc 1) (.const (.int 1))),(.sub (.loc 1) (.const (.int 2)))])] [.ite (.cmp .eq (.bi .len [(.loc 1)]) (.const (.int 2))) [.assign (.many [3,1]) (.call 28 [(.loc 3),(.sub (.loc 1) (.const (.int 0))),(.sub (.loc 1) (.const (.int 1))),(.call 33 [(.loc 2),(.sub (.loc 1) (.const (.int 0))),(.sub (.loc 1) (.const (.int 1)))])])] []]]],
 .ite (.cmp .eq (.loc 3) (.const (.str [110,111,116]))) [.ite (.bop false [(.cmp .eq (.sub (.loc 1) (.const (.int 0))) (.const (.int 0))),(.cmp .eq (.sub (.loc 1) (.const (.int 0))) (.const (.int 1)))]) [.ret (.tup [(.const (.str [98,117,102])),(.tup [(.bin .sub (.const (.int 1)) (.sub (.loc 1) (.const (.int 0))))]),(.const .none)])] [],.ite (.cmp .in_ (.sub (.loc 1) (.const (.int 0))) (.loc 2)) [.ret (.tup [(.const (.str [98,117,102])),(.tup [(.sub (.loc 2) (.sub (.loc 1) (.const (.int 0))))]),(.const .none)])] []] [],
 .ret (.tup [(.loc 3),(.loc 1),(.loc 4)])] }
noncomputable def fA:Fn:={ np:=1,nl:=10,body:=[
 .assign (.one 1) (.bi .list [(.attr (.loc 0) [99,101,108,108,115])]),
 .assign (.one 2) (.dict []),
 .assign (.one 3) (.dict []),
 .for_ (.one 4) false (.call 12 [(.loc 0)]) [.assign (.one 5) (.sub (.loc 1) (.loc 4)),.assign (.one 6) (.sub (.loc 5) (.const (.int 1))),.assign (.one 7) (.bi .tuple [(.comp 1 (.one 0) false (.sub (.loc 5) (.const (.int 2))) (.elt (.call 21 [(.free 2),(.loc 0)])))]),.assign (.many [8,7,9]) (.call 35 [(.loc 5),(.loc 7),(.loc 3)]),.ite (.cmp .eq (.loc 8) (.const (.str [98,117,102]))) [.setSub (.loc 2) (.loc 6) (.sub (.loc 7) (.const (.int 0)))] [.setSub (.loc 1) (.loc 4) (.tup [(.loc 8),(.loc 6),(.loc 7),(.loc 9)]),.ite (.cmp .eq (.loc 8) (.const (.str [110,111,116]))) [.setSub (.loc 3) (.loc 6) (.sub (.loc 7) (.const (.int 0))),.setSub (.loc 3) (.sub (.loc 7) (.const (.int 0))) (.loc 6)] []]],
 .ret (.call 22 [(.loc 0),(.loc 1),(.loc 2)])] }
noncomputable def gH:Fn:={ np:=1,nl:=9,body:=[
 .assign (.one 1) (.dict []),
 .assign (.one 2) (.dict []),
 .for_ (.one 3) false (.call 12 [(.loc 0)]) [.assign (.many [4,5,6,7]) (.sub (.attr (.loc 0) [99,101,108,108,115]) (.loc 3)),.ite (.cmp .eq (.loc 4) (.const (.str [98,117,102]))) [.setSub (.loc 1) (.loc 5) (.call 21 [(.loc 1),(.sub (.loc 6) (.const (.int 0)))])] [.ite (.cmp .eq (.loc 4) (.const (.str [110,111,116]))) [.assign (.one 8) (.call 21 [(.loc 1),(.sub (.loc 6) (.const (.int 0)))]),.ite (.cmp .in_ (.loc 8) (.loc 2)) [.setSub (.loc 1) (.loc 5) (.sub (.loc 2) (.loc 8))] [.setSub (.loc 2) (.loc 5) (.loc 8)]] []]],
 .ret (.call 23 [(.loc 0),(.loc 1)])] }
noncomputable def iU:Fn:={ np:=1,nl:=7,body:=[
 .assign (.one 1) (.call 10 [(.loc 0)]),
 .assign (.one 2) (.dict []),
 .assign (.one 3) (.list []),
 .for_ (.many [4,5]) false (.attr (.loc 0) [111,117,116,112,117,116,115]) [.expr (.bm .extend (.loc 3) [(.loc 5)])],
 .while_ (.loc 3) [.assign (.one 6) (.bm .get (.loc 1) [(.bm .pop (.loc 3) []),(.neg (.const (.int 1)))]),.ite (.bop true [(.cmp .ge (.loc 6) (.const (.int 0))),(.cmp .notIn (.loc 6) (.loc 2))]) [.setSub (.loc 2) (.loc 6) (.const (.bool true)),.expr (.bm .extend (.loc 3) [(.sub (.sub (.attr (.loc 0) [99,101,108,108,115]) (.loc 6)) (.const (.int 2)))])] []],
 .ret (.loc 2)] }
noncomputable def im:Fn:={ np:=1,nl:=4,body:=[
 .assign (.one 1) (.call 38 [(.loc 0)]),
 .assign (.one 2) (.list []),
 .for_ (.one 3) true (.bi .len [(.attr (.loc 0) [99,101,108,108,115])]) [.ite (.cmp .in_ (.loc 3) (.loc 1)) [.expr (.bm .append (.loc 2) [(.sub (.attr (.loc 0) [99,101,108,108,115]) (.loc 3))])] []],
 .ret (.call 22 [(.loc 0),(.loc 2),(.dict [])])] }
noncomputable def kA:Fn:={ np:=2,nl:=4,body:=[
 .ite (.cmp .eq (.sub (.loc 0) (.const (.int 2))) (.const (.int 0))) [.ite (.cmp .eq (.sub (.loc 0) (.const (.int 1))) (.bi .len [(.sub (.loc 0) (.const (.int 0)))])) [.setSub (.loc 0) (.const (.int 3)) (.bin .mod (.bin .mul (.sub (.loc 0) (.const (.int 3))) (.const (.int 48271))) (.const (.int 2147483647))),.ret (.bin .mod (.bin .fdiv (.sub (.loc 0) (.const (.int 3))) (.const (.int 7))) (.loc 1))] [],.assign (.one 2) (.sub (.sub (.loc 0) (.const (.int 0))) (.sub (.loc 0) (.const (.int 1)))),.setSub (.loc 0) (.const (.int 1)) (.bin .add (.sub (.loc 0) (.const (.int 1))) (.const (.int 1))),.setSub (.loc 0) (.const (.int 2)) (.ite (.cmp .ge (.loc 2) (.const (.int 0))) (.loc 2) (.neg (.loc 2)))] [],
 .assign (.one 3) (.bin .mod (.sub (.loc 0) (.const (.int 2))) (.loc 1)),
 .setSub (.loc 0) (.const (.int 2)) (.bin .fdiv (.sub (.loc 0) (.const (.int 2))) (.loc 1)),
 .ret (.loc 3)] }
noncomputable def jp:Fn:={ np:=2,nl:=2,body:=[
 .ite (.cmp .eq (.loc 0) (.const (.str [108,117,116]))) [.ret (.loc 1)] [],
 .ite (.cmp .eq (.loc 0) (.const (.str [99,101,108,108]))) [.ret (.sub (.loc 1) (.const (.int 1)))] [],
 .ret (.sub (.dict [(.const (.str [98,117,102])),(.const (.int 2)),(.const (.str [110,111,116])),(.const (.int 1)),(.const (.str [97,110,100])),(.const (.int 8)),(.const (.str [111,114])),(.const (.int 14)),(.const (.str [120,111,114])),(.const (.int 6)),(.const (.str [110,97,110,100])),(.const (.int 7)),(.const (.str [110,111,114])),(.const (.int 1)),(.const (.str [120,110,111,114])),(.const (.int 9)),(.const (.str [109,117,120])),(.const (.int 228))]) (.loc 0))] }
noncomputable def kB:Fn:={ np:=2,nl:=2,body:=[
 .ite (.cmp .eq (.call 40 [(.loc 0),(.const (.int 3))]) (.const (.int 0))) [.ret (.sub (.loc 1) (.call 40 [(.loc 0),(.bi .len [(.loc 1)])]))] [],
 .ret (.sub (.loc 1) (.bin .sub (.neg (.const (.int 1))) (.call 40 [(.loc 0),(.bi .min2 [(.bi .len [(.loc 1)]),(.const (.int 6))])])))] }
noncomputable def io:Fn:={ np:=4,nl:=16,body:=[
 .assign (.one 4) (.new [(.const (.str [109]))]),
 .assign (.one 5) (.bin .add (.bin .add (.list [(.const (.int 0)),(.const (.int 1))]) (.meth (.loc 4) 4 [(.const (.str [97])),(.bin .add (.const (.int 1)) (.call 40 [(.loc 0),(.const (.int 2))]))])) (.meth (.loc 4) 4 [(.const (.str [98])),(.bin .add (.const (.int 1)) (.call 40 [(.loc 0),(.const (.int 2))]))])),
 .assign (.one 6) (.meth (.loc 4) 3 [(.call 40 [(.loc 0),(.bin .add (.loc 2) (.const (.int 1)))])]),
 .augLoc 5 .add (.loc 6),
 .for_ (.one 7) true (.call 40 [(.loc 0),(.bin .add (.loc 1) (.const (.int 1)))]) [.assign (.one 8) (.sub (.loc 3) (.call 40 [(.loc 0),(.bi .len [(.loc 3)])])),.assign (.one 9) (.bm .get (.dict [(.const (.str [110,111,116])),(.const (.int 1)),(.const (.str [98,117,102])),(.const (.int 1)),(.const (.str [109,117,120])),(.const (.int 3))]) [(.loc 8),(.const (.int 2))]),.assign (.one 10) (.const .none),.ite (.cmp .in_ (.loc 8) (.list [(.const (.str [108,117,116])),(.const (.str [99,101,108,108]))])) [.assign (.one 9) (.bin .add (.const (.int 1)) (.call 40 [(.loc 0),(.const (.int 3))])),.assign (.one 10) (.call 40 [(.loc 0),(.bin .pow (.const (.int 2)) (.bin .pow (.const (.int 2)) (.loc 9)))]),.assign (.one 10) (.ite (.cmp .eq (.loc 8) (.const (.str [99,101,108,108]))) (.tup [(.bin .add (.const (.str [67])) (.bi .str [(.loc 10)])),(.loc 10)]) (.loc 10))] [],.expr (.bm .append (.loc 5) [(.meth (.loc 4) 6 [(.loc 8),(.comp 1 (.one 0) true (.loc 9) (.elt (.call 42 [(.free 0),(.free 5)]))),(.loc 10)])])],
 .for_ (.one 11) true (.bi .len [(.loc 6)]) [.assign (.one 12) (.call 40 [(.loc 0),(.const (.int 2))]),.assign (.one 13) (.call 40 [(.loc 0),(.const (.int 2))]),.assign (.one 14) (.ite (.cmp .eq (.call 40 [(.loc 0),(.const (.int 3))]) (.const (.int 2))) (.call 42 [(.loc 0),(.loc 5)]) (.const (.int 2))),.assign (.one 15) (.bin .add (.list [(.loc 14),(.call 42 [(.loc 0),(.loc 5)])]) (.comp 1 (.one 0) true (.const (.int 2)) (.elt (.ite (.cmp .eq (.call 40 [(.free 0),(.const (.int 3))]) (.const (.int 2))) (.call 42 [(.free 0),(.free 5)]) (.const (.int 0)))))),.ite (.cmp .eq (.call 40 [(.loc 0),(.const (.int 4))]) (.const (.int 3))) [.expr (.meth (.loc 4) 7 [(.sub (.loc 6) (.loc 11)),(.const (.str [108,97,116,99,104])),(.loc 15),(.tup [(.bin .add (.const (.str [113])) (.bi .str [(.loc 11)])),(.loc 13)])])] [.expr (.meth (.loc 4) 7 [(.sub (.loc 6) (.loc 11)),(.const (.str [102,108,111,112])),(.loc 15),(.tup [(.loc 12),(.bin .add (.const (.str [113])) (.bi .str [(.loc 11)])),(.loc 13)])])]],
 .expr (.meth (.loc 4) 5 [(.const (.str [121])),(.comp 1 (.one 0) true (.bin .add (.const (.int 1)) (.call 40 [(.loc 0),(.const (.int 3))])) (.elt (.call 42 [(.free 0),(.free 5)])))]),
 .expr (.meth (.loc 4) 5 [(.const (.str [122])),(.list [(.call 42 [(.loc 0),(.loc 5)])])]),
 .ret (.loc 4)] }
noncomputable def iV:Fn:={ np:=1,nl:=1,body:=[
 .ret (.comp 1 (.one 0) false (.attr (.loc 0) [99,101,108,108,115]) (.if_ (.cmp .in_ (.sub (.loc 0) (.const (.int 0))) (.list [(.const (.str [102,108,111,112])),(.const (.str [108,97,116,99,104]))])) (.elt (.loc 0))))] }
noncomputable def gI:Fn:={ np:=1,nl:=5,body:=[
 .assign (.one 1) (.comp 3 (.many [0,1]) false (.attr (.loc 0) [105,110,112,117,116,115]) (.for_ (.one 2) true (.bi .len [(.loc 1)]) (.elt (.tup [(.loc 0),(.loc 2)])))),
 .augLoc 1 .add (.comp 1 (.one 0) false (.call 44 [(.loc 0)]) (.elt (.sub (.sub (.loc 0) (.const (.int 3))) (.neg (.const (.int 2)))))),
 .assign (.one 2) (.bin .pow (.const (.int 2)) (.bi .len [(.loc 1)])),
 .assign (.one 3) (.dict []),
 .for_ (.one 4) true (.bi .len [(.loc 1)]) [.setSub (.loc 3) (.sub (.loc 1) (.loc 4)) (.bi .sum [(.comp 1 (.one 0) true (.loc 2) (.if_ (.cmp .eq (.bin .mod (.bin .fdiv (.loc 0) (.bin .pow (.const (.int 2)) (.free 4))) (.const (.int 2))) (.const (.int 1))) (.elt (.bin .pow (.const (.int 2)) (.loc 0)))))])],
 .ret (.tup [(.loc 3),(.bin .sub (.bin .pow (.const (.int 2)) (.loc 2)) (.const (.int 1)))])] }
noncomputable def kC:Fn:={ np:=3,nl:=7,body:=[
 .assign (.one 3) (.const (.int 0)),
 .for_ (.one 4) true (.bin .pow (.const (.int 2)) (.bi .len [(.loc 1)])) [.ite (.cmp .eq (.bin .mod (.bin .fdiv (.loc 0) (.bin .pow (.const (.int 2)) (.loc 4))) (.const (.int 2))) (.const (.int 1))) [.assign (.one 5) (.loc 2),.for_ (.one 6) true (.bi .len [(.loc 1)]) [.assign (.one 5) (.bin .band (.loc 5) (.ite (.cmp .eq (.bin .mod (.bin .fdiv (.loc 4) (.bin .pow (.const (.int 2)) (.loc 6))) (.const (.int 2))) (.const (.int 1))) (.sub (.loc 1) (.loc 6)) (.bin .sub (.loc 2) (.sub (.loc 1) (.loc 6)))))],.assign (.one 3) (.bin .bor (.loc 3) (.loc 5))] []],
 .ret (.loc 3)] }
noncomputable def jq:Fn:={ np:=3,nl:=11,body:=[
 .assign (.one 3) (.dict [(.const (.int 0)),(.const (.int 0)),(.const (.int 1)),(.loc 2)]),
 .for_ (.many [4,5]) false (.attr (.loc 0) [105,110,112,117,116,115]) [.for_ (.one 6) true (.bi .len [(.loc 5)]) [.setSub (.loc 3) (.sub (.loc 5) (.loc 6)) (.sub (.loc 1) (.tup [(.loc 4),(.loc 6)]))]],
 .for_ (.one 7) false (.call 44 [(.loc 0)]) [.setSub (.loc 3) (.sub (.loc 7) (.const (.int 1))) (.sub (.loc 1) (.sub (.sub (.loc 7) (.const (.int 3))) (.neg (.const (.int 2)))))],
 .assign (.one 8) (.comp 1 (.one 0) false (.attr (.loc 0) [99,101,108,108,115]) (.if_ (.cmp .notIn (.sub (.loc 0) (.const (.int 0))) (.list [(.const (.str [102,108,111,112])),(.const (.str [108,97,116,99,104]))])) (.elt (.loc 0)))),
 .for_ (.one 9) true (.bi .len [(.loc 8)]) [.assign (.one 10) (.list []),.for_ (.one 7) false (.loc 8) [.ite (.cmp .in_ (.const (.bool false)) (.comp 1 (.one 0) false (.sub (.loc 7) (.const (.int 2))) (.elt (.cmp .in_ (.loc 0) (.free 3))))) [.expr (.bm .append (.loc 10) [(.loc 7)])] [.setSub (.loc 3) (.sub (.loc 7) (.const (.int 1))) (.call 46 [(.call 41 [(.sub (.loc 7) (.const (.int 0))),(.sub (.loc 7) (.const (.int 3)))]),(.comp 1 (.one 0) false (.sub (.loc 7) (.const (.int 2))) (.elt (.sub (.free 3) (.loc 0)))),(.loc 2)])]],.assign (.one 8) (.loc 10)],
 .ret (.loc 3)] }
noncomputable def jr:Fn:={ np:=3,nl:=7,body:=[
 .assign (.one 3) (.call 47 [(.loc 0),(.loc 1),(.loc 2)]),
 .assign (.one 4) (.comp 2 (.many [0,1]) false (.attr (.loc 0) [111,117,116,112,117,116,115]) (.elt (.tup [(.loc 0),(.comp 1 (.one 0) false (.loc 1) (.elt (.bm .get (.free 3) [(.loc 0),(.neg (.const (.int 1)))])))]))),
 .assign (.one 5) (.dict []),
 .for_ (.one 6) false (.call 44 [(.loc 0)]) [.setSub (.loc 5) (.sub (.sub (.loc 6) (.const (.int 3))) (.neg (.const (.int 2)))) (.tup [(.sub (.loc 6) (.const (.int 0))),(.sub (.loc 6) (.const (.int 3))),(.comp 1 (.one 0) false (.sub (.loc 6) (.const (.int 2))) (.elt (.bm .get (.free 3) [(.loc 0),(.neg (.const (.int 1)))])))])],
 .ret (.tup [(.loc 4),(.loc 5)])] }
noncomputable def kD:Fn:={ np:=4,nl:=8,body:=[
 .assign (.many [4,5]) (.call 48 [(.loc 0),(.loc 2),(.loc 3)]),
 .assign (.many [6,7]) (.call 48 [(.loc 1),(.loc 2),(.loc 3)]),
 .ite (.bop false [(.cmp .ne (.loc 6) (.loc 4)),(.cmp .ne (.attr (.loc 1) [105,110,112,117,116,115]) (.attr (.loc 0) [105,110,112,117,116,115])),(.cmp .ne (.attr (.loc 1) [110,97,109,101]) (.attr (.loc 0) [110,97,109,101]))]) [.ret (.const (.bool false))] [],
 .ret (.cmp .notIn (.const (.bool false)) (.comp 1 (.one 0) false (.loc 7) (.elt (.bop true [(.cmp .in_ (.loc 0) (.free 5)),(.cmp .eq (.sub (.free 7) (.loc 0)) (.sub (.free 5) (.loc 0)))]))))] }
noncomputable def gJ:Fn:={ np:=1,nl:=5,body:=[
 .assign (.many [1,2,3,4]) (.loc 0),
 .ite (.cmp .in_ (.loc 1) (.list [(.const (.str [108,117,116])),(.const (.str [99,101,108,108])),(.const (.str [102,108,111,112])),(.const (.str [108,97,116,99,104]))])) [.ret (.bop true [(.cmp .eq (.loc 1) (.const (.str [108,117,116]))),(.bop false [(.cmp .lt (.bi (.lenset ()) [(.loc 3)]) (.bi .len [(.loc 3)])),(.cmp .lt (.bi .min1 [(.loc 3)]) (.const (.int 2))),(.cmp .lt (.bi .len [(.loc 3)]) (.const (.int 2)))])])] [],
 .ite (.cmp .eq (.loc 1) (.const (.str [109,117,120]))) [.ret (.bop false [(.cmp .lt (.sub (.loc 3) (.const (.int 0))) (.const (.int 2))),(.cmp .eq (.sub (.loc 3) (.const (.int 1))) (.sub (.loc 3) (.const (.int 2)))),(.bop true [(.cmp .lt (.sub (.loc 3) (.const (.int 1))) (.const (.int 2))),(.cmp .lt (.sub (.loc 3) (.const (.int 2))) (.const (.int 2)))])])] [],
 .ret (.bop false [(.cmp .eq (.loc 1) (.const (.str [98,117,102]))),(.cmp .lt (.bi .min1 [(.loc 3)]) (.const (.int 2))),(.bop true [(.cmp .eq (.bi .len [(.loc 3)]) (.const (.int 2))),(.cmp .eq (.sub (.loc 3) (.const (.int 0))) (.sub (.loc 3) (.const (.int 1))))])])] }
noncomputable def kE:Fn:={ np:=1,nl:=4,body:=[
 .assign (.one 1) (.comp 3 (.many [0,1]) false (.attr (.loc 0) [111,117,116,112,117,116,115]) (.for_ (.one 2) false (.loc 1) (.elt (.loc 2)))),
 .for_ (.one 2) true (.bi .len [(.attr (.loc 0) [99,101,108,108,115])]) [.for_ (.one 3) false (.attr (.loc 0) [99,101,108,108,115]) [.ite (.cmp .in_ (.sub (.loc 3) (.const (.int 1))) (.loc 1)) [.assign (.one 1) (.bin .add (.loc 1) (.comp 1 (.one 0) false (.sub (.loc 3) (.const (.int 2))) (.if_ (.cmp .notIn (.loc 0) (.free 1)) (.elt (.loc 0)))))] []]],
 .ret (.comp 1 (.one 0) false (.attr (.loc 0) [99,101,108,108,115]) (.if_ (.cmp .in_ (.sub (.loc 0) (.const (.int 1))) (.free 1)) (.elt (.loc 0))))] }
noncomputable def pI:Fn:={ np:=1,nl:=13,body:=[
 .assign (.one 1) (.slice (.loc 0) 63),
 .assign (.one 2) (.list [(.loc 1),(.const (.int 0)),(.const (.int 0)),(.bin .mul (.bin .mod (.bi .sum [(.loc 1)]) (.const (.int 100003))) (.const (.int 7))),(.const (.int 0))]),
 .assign (.one 3) (.call 43 [(.loc 2),(.const (.int 10)),(.const (.int 2)),(.list [(.const (.str [97,110,100])),(.const (.str [110,111,116])),(.const (.str [109,117,120])),(.const (.str [120,111,114])),(.const (.str [111,114])),(.const (.str [98,117,102])),(.const (.str [108,117,116])),(.const (.str [110,97,110,100])),(.const (.str [110,111,114])),(.const (.str [120,110,111,114])),(.const (.str [99,101,108,108]))])]),
 .assign (.one 4) (.list [(.bi .list [(.attr (.loc 3) [99,101,108,108,115])]),(.comp 2 (.many [0,1]) false (.bin .add (.attr (.loc 3) [105,110,112,117,116,115]) (.attr (.loc 3) [111,117,116,112,117,116,115])) (.elt (.tup [(.loc 0),(.bi .list [(.loc 1)])]))),(.attr (.loc 3) [99,111,117,110,116])]),
 .assign (.many [5,6]) (.call 45 [(.loc 3)]),
 .assign (.one 7) (.call 36 [(.loc 3)]),
 .assign (.one 8) (.call 37 [(.loc 3)]),
 .assign (.one 9) (.call 39 [(.loc 3)]),
 .for_ (.one 10) false (.list [(.loc 7),(.loc 8),(.loc 9)]) [.ite (.not (.call 49 [(.loc 3),(.loc 10),(.loc 5),(.loc 6)])) [.ret (.const (.bool false))] []],
 .assign (.one 11) (.comp 1 (.one 0) false (.call 44 [(.loc 3)]) (.elt (.sub (.sub (.loc 0) (.const (.int 3))) (.neg (.const (.int 2)))))),
 .ite (.bop false [(.cmp .ne (.comp 1 (.one 0) false (.call 44 [(.loc 7)]) (.elt (.sub (.sub (.loc 0) (.const (.int 3))) (.neg (.const (.int 2)))))) (.loc 11)),(.cmp .ne (.comp 1 (.one 0) false (.call 44 [(.loc 8)]) (.elt (.sub (.sub (.loc 0) (.const (.int 3))) (.neg (.const (.int 2)))))) (.loc 11))]) [.ret (.const (.bool false))] [],
 .ite (.bop false [(.cmp .in_ (.const (.bool true)) (.comp 1 (.one 0) false (.attr (.loc 7) [99,101,108,108,115]) (.elt (.call 50 [(.loc 0)])))),(.cmp .in_ (.const (.str [98,117,102])) (.comp 1 (.one 0) false (.attr (.loc 8) [99,101,108,108,115]) (.elt (.sub (.loc 0) (.const (.int 0))))))]) [.ret (.const (.bool false))] [],
 .ite (.cmp .ne (.attr (.loc 9) [99,101,108,108,115]) (.call 51 [(.loc 3)])) [.ret (.const (.bool false))] [],
 .assign (.one 12) (.call 39 [(.call 37 [(.loc 7)])]),
 .ite (.bop false [(.not (.call 49 [(.loc 3),(.loc 12),(.loc 5),(.loc 6)])),(.cmp .ne (.attr (.loc 12) [99,101,108,108,115]) (.call 51 [(.loc 12)]))]) [.ret (.const (.bool false))] [],
 .ret (.cmp .eq (.loc 4) (.list [(.attr (.loc 3) [99,101,108,108,115]),(.comp 2 (.many [0,1]) false (.bin .add (.attr (.loc 3) [105,110,112,117,116,115]) (.attr (.loc 3) [111,117,116,112,117,116,115])) (.elt (.tup [(.loc 0),(.bi .list [(.loc 1)])]))),(.attr (.loc 3) [99,111,117,110,116])]))] }
noncomputable def PL:List Fn:=[gD,fU,eY,bR,dZ,dJ,eE,fV,lc,ii,ma,fX,iQ,iR,qF,r8,kv,md,mf,nH,nJ,jm,fY,mh,kw,mi,kz,ij,jn,ik,jo,iS,iT,gF,gG,il,fA,gH,iU,im,kA,jp,kB,io,iV,gI,kC,jq,jr,kD,gJ,kE,pI]
noncomputable def P(n:Nat):Option Fn:=PL[n]?
section
variable (cl:aR) (W:Nat) (m c:aZ) (h:Hp)
theorem bd(v):aC cl (.const v) m c h=DJ (v,h):=rfl
theorem aB(v):aC cl (.loc 0) (DJ v::m) [] h=DJ (v,h):=rfl
theorem aU(x i):aC cl (.loc (i+1)) (x::m) [] h=aC cl (.loc i) m [] h:=rfl
theorem qG(v):aC cl (.loc 0) m (DJ v::c) h=DJ (v,h):=rfl
theorem C2(x v):aC cl (.loc 1) m (x::DJ v::c) h=DJ (v,h):=rfl
theorem C3(x y v):aC cl (.loc 2) m (x::y::DJ v::c) h=DJ (v,h):=rfl
theorem zO(v):aC cl (.free 0) (DJ v::m) c h=DJ (v,h):=rfl
theorem zP(x i):aC cl (.free (i+1)) (x::m) c h=aC cl (.free i) m c h:=rfl
theorem jQ(o a b):aC cl (.bin o a b) m c h=(aC cl a m c h).bind fun p=>(aC cl b m c p.2).bind fun q=>qE q.2 o p.1 q.1:=rfl
theorem Ag(a):aC cl (.not a) m c h=(aC cl a m c h).bind fun p=>(truthy p.2 p.1).bind fun b=>DJ (.bool (!b),p.2):=rfl
theorem tN(i):aC cl (.neg (.const (.int i))) m c h=DJ (.int (-i),h):=rfl
theorem aK(o a b):aC cl (.cmp o a b) m c h=(aC cl a m c h).bind fun p=>(aC cl b m c p.2).bind fun q=>(nG q.2 o p.1 q.1).bind fun r=>DJ (.bool r,q.2):=rfl
theorem r9(t a b):aC cl (.ite t a b) m c h=(aC cl t m c h).bind fun p=>(truthy p.2 p.1).bind fun r=>if r then aC cl a m c p.2 else aC cl b m c p.2:=rfl
theorem cG(es):aC cl (.tup es) m c h=(iP cl es m c h).bind fun p=>DJ (.tup p.1,p.2):=rfl
theorem pf(es):aC cl (.list es) m c h=(iP cl es m c h).bind fun p=>DJ (.ref p.2.length,p.2++[.list p.1]):=rfl
theorem vI(es):aC cl (.dict es) m c h=(iP cl es m c h).bind fun p=>(fz p.1).bind fun ps=>DJ (.ref p.2.length,p.2++[.dict (bg ps)]):=rfl
theorem cV(o n):aC cl (.attr o n) m c h=(aC cl o m c h).bind fun p=>(jg p.2 p.1 n).bind fun v=>DJ (v,p.2):=rfl
theorem bD(o i):aC cl (.sub o i) m c h=(aC cl o m c h).bind fun p=>(aC cl i m c p.2).bind fun q=>(fS q.2 p.1 q.1).bind fun v=>DJ (v,q.2):=rfl
theorem ej(f es):aC cl (.call f es) m c h=(iP cl es m c h).bind fun p=>cl f p.1 p.2:=rfl
theorem cO(b es):aC cl (.bi b es) m c h=(iP cl es m c h).bind fun p=>pH p.2 b p.1:=rfl
theorem mj(b o es):aC cl (.bm b o es) m c h=(aC cl o m c h).bind fun p=>if r7 p.2 b p.1 then (iP cl es m c p.2).bind fun q=>wV q.2 b p.1 q.1 else none:=rfl
theorem aw:iP cl [] m c h=DJ ([],h):=rfl
theorem aA(e es):iP cl (e::es) m c h=(aC cl e m c h).bind fun p=>(iP cl es m c p.2).bind fun q=>DJ (p.1::q.1,q.2):=rfl
theorem cW(e):f9 cl e m h=(aC cl e m [] h).bind fun p=>(truthy p.2 p.1).bind fun t=>DJ (t,p.2):=rfl
theorem cq(b):truthy h (.bool b)=DJ b:=rfl
theorem Ah(i):truthy h (.int i)=DJ (decide (i≠0)):=rfl
theorem bt(a b):nG h .eq a b=rZ h a b:=rfl
theorem se(a b):nG h .ne a b=(rZ h a b).map (!·):=rfl
theorem kF(a b):nG h .in_ a b=bc h a b:=rfl
theorem sf(a b):nG h .notIn a b=(bc h a b).map (!·):=rfl
theorem mW(a b):nG h .lt (.int a) (.int b)=DJ (decide (a<b)):=rfl
theorem Dm(a b):nG h (.gt ()) (.int a) (.int b)=DJ (decide (a>b)):=rfl
theorem yO(a b):nG h .ge (.int a) (.int b)=DJ (decide (a≥b)):=rfl
theorem ec(o a b):qE h o (.int a) (.int b)=(bA o a b).map fun z=>(.int z,h):=rfl
theorem vJ(o a b):jl h o (.int a) (.int b)=(bA o a b).map fun z=>(.int z,h):=rfl
theorem tO(a b):bA .add a b=DJ (a+b):=rfl
theorem wW(a b):bA .sub a b=DJ (a - b):=rfl
theorem cQ(vs i):fS h (.tup vs) (.int i)=eM vs i:=rfl
theorem iW(v vs):eM (v::vs) 0=DJ v:=rfl
theorem nK(v w vs):eM (v::w::vs) 1=DJ w:=rfl
theorem qH(v w x vs):eM (v::w::x::vs) 2=DJ x:=rfl
theorem tP(v w x y vs):eM (v::w::x::y::vs) 3=DJ y:=rfl
theorem wX(vs):pH h .len [.tup vs]=DJ (.int vs.length,h):=rfl
theorem sg(is vs):bp m (.many is) (.tup vs)=eV m is vs:=rfl
theorem pg:eV m [] []=DJ m:=rfl
theorem tQ:cF cl W [] m h=DJ (.next,m,h):=rfl
theorem tR(s ss):cF cl W (s::ss) m h=(mG cl W s m h).bind fun p=>match p.1 with
 | .next=>cF cl W ss p.2.1 p.2.2
 | f=>DJ (f,p.2.1,p.2.2):=rfl
theorem yP(t e):mG cl W (.assign t e) m h=(aC cl e m [] h).bind fun p=>(bp m t p.1).bind fun m=>DJ (.next,m,p.2):=rfl
theorem Bs(e):mG cl W (.expr e) m h=(aC cl e m [] h).bind fun p=>DJ (.next,m,p.2):=rfl
theorem qI(e):mG cl W (.ret e) m h=(aC cl e m [] h).bind fun p=>DJ (.ret p.1,m,p.2):=rfl
theorem yQ(t b o):mG cl W (.ite t b o) m h=(f9 cl t m h).bind fun p=>if p.1 then cF cl W b m p.2 else cF cl W o m p.2:=rfl
theorem Dn(o i e):mG cl W (.setSub o i e) m h=(aC cl e m [] h).bind fun p=>(aC cl o m [] p.2).bind fun x=>(aC cl i m [] x.2).bind fun y=>(dq y.2 x.1 y.1 p.1).bind fun h=>DJ (.next,m,h):=rfl
theorem yR(i op e):mG cl W (.augLoc i op e) m h=(aC cl (.loc i) m [] h).bind fun x=>(aC cl e m [] x.2).bind fun v=>(jl v.2 op x.1 v.1).bind fun r=>(bp m (.one i) r.1).bind fun m=>DJ (.next,m,r.2):=rfl
theorem Do:mG cl W .cont m h=DJ (.cont,m,h):=rfl
theorem vK(i v):bp m (.one i) v=if i<m.length then DJ (m.set i (DJ v)) else none:=rfl
theorem Ai(i is v vs):eV m (i::is) (v::vs)=if i<m.length then eV (m.set i (DJ v)) is vs else none:=rfl
theorem Cw:truthy h .none=DJ false:=rfl
theorem Aj(a):truthy h (.ref a)=match h[a]? with
 | some (.list vs)=>DJ (!vs.isEmpty)
 | _=>none:=rfl
theorem kG(a i):fS h (.ref a) i=match h[a]? with
 | some (.list vs)=>(match i with
  | .int i=>eM vs i
  | _=>none)
 | some (.dict es)=>if bv i then br es i else none
 | _=>none:=rfl
theorem vL(x a):bc h x (.ref a)=match h[a]? with
 | some (.list vs)=>kf h x vs
 | some (.dict es)=>if bv x then DJ (br es x).isSome else none
 | _=>none:=rfl
theorem sh(a i v):dq h (.ref a) i v=match h[a]? with
 | some (.list vs)=>(match i with
  | .int i=>if 0<=i/\i.toNat<vs.length then DJ (h.set a (.list (vs.set i.toNat v))) else none
  | _=>none)
 | some (.dict es)=>if bv i/\es.length<bo then DJ (h.set a (.dict (dz es i v))) else none
 | _=>none:=rfl
theorem Ak(a v):wV h .append (.ref a) [v]=mF h[a]? fun xs=>if xs.length<bo then DJ (.none,h.set a (.list (xs++[v]))) else none:=rfl
theorem Dp(a ys):wV h .extend (.ref a) [.tup ys]=mF h[a]? fun xs=>if xs.length+ys.length<bo then DJ (.none,h.set a (.list (xs++ys))) else none:=rfl
theorem Dq(a b):wV h .extend (.ref a) [.ref b]=mF h[a]? fun xs=>mF h[b]? fun ys=>if a≠b/\xs.length+ys.length<bo then DJ (.none,h.set a (.list (xs++ys))) else none:=rfl
theorem Dr(a):wV h .pop (.ref a) []=mF h[a]? fun xs=>xs.getLast?.map fun v=>(v,h.set a (.list xs.dropLast)):=rfl
theorem Ds(a v):wV h (.index ()) (.ref a) [v]=mF h[a]? fun xs=>(r6 h v xs).map fun (i:Nat)=>(AV.int i,h):=rfl
theorem B5(a k d):wV h .get (.ref a) [k,d]=Br h[a]? fun es=>if bv k then DJ ((br es k).getD d,h) else none:=rfl
theorem vM(b a):r7 h b (.ref a)=match h[a]? with
 | some (.list _)=>(match b with
  | .get=>false
  | _=>true)
 | some (.dict _)=>(match b with
  | .get=>true
  | _=>false)
 | _=>false:=rfl
theorem ml(i):bv (.int i)=true:=rfl
theorem vN(s):bv (.str s)=true:=rfl
theorem Cy(vs):bv (.tup vs)=vs.all dY:=rfl
theorem vO(a):pH h .len [.ref a]=mF h[a]? fun vs=>DJ (.int vs.length,h):=rfl
theorem Cz(a):pH h .list [.ref a]=mF h[a]? fun vs=>DJ (.ref h.length,h++[.list vs]):=rfl
theorem Bt(a):pH h .tuple [.ref a]=mF h[a]? fun vs=>DJ (.tup vs,h):=rfl
theorem Bu(a):pH h .sum [.ref a]=mF h[a]? fun vs=>(gA vs).map fun is=>(.int is.sum,h):=rfl
theorem wY(k e):yN cl k [e] m c h=aC cl e m c h:=rfl
theorem wZ(k e f es):yN cl k (e::f::es) m c h=(aC cl e m c h).bind fun p=>(truthy p.2 p.1).bind fun t=>if t=k then yN cl k (f::es) m c p.2 else DJ (p.1,p.2):=rfl
theorem w6(k es):aC cl (.bop k es) m c h=yN cl k es m c h:=rfl
theorem yS(e a):m8 cl (.elt e) m c h a=(aC cl e m c h).bind fun p=>if a.length<bo then DJ (c,p.2,a++[p.1]) else none:=rfl
theorem CB(e g a):m8 cl (.if_ e g) m c h a=(aC cl e m c h).bind fun p=>(truthy p.2 p.1).bind fun t=>if t then m8 cl g m c p.2 a else DJ (c,p.2,a):=rfl
theorem Dt(t r i g a):m8 cl (.for_ t r i g) m c h a=(aC cl i m c h).bind fun p=>(bZ p.2 r p.1).bind fun q=>eW (fun s=>s.2.1) q.2 (fun (s:aZ × Hp × List AV) v=>(bp s.1 t v).bind fun c'=>m8 cl g m c' s.2.1 s.2.2) q.1 (c,p.2,a):=rfl
theorem Du(t r i b):mG cl W (.for_ t r i b) m h=(aC cl i m [] h).bind fun p=>(bZ p.2 r p.1).bind fun q=>gC q.2 t (fun m h=>cF cl W b m h) q.1 m p.2:=rfl
theorem Dv(o n e):mG cl W (.setAttr o n e) m h=(aC cl e m [] h).bind fun p=>(aC cl o m [] p.2).bind fun x=>(dI x.2 x.1 n p.1).bind fun h=>DJ (.next,m,h):=rfl
theorem CC(o n op e):mG cl W (.augAttr o n op e) m h=(aC cl o m [] h).bind fun x=>(jg x.2 x.1 n).bind fun a=>(aC cl e m [] x.2).bind fun v=>(jl v.2 op a v.1).bind fun r=>(dI r.2 x.1 n r.1).bind fun h=>DJ (.next,m,h):=rfl
theorem Dw(o i op e):mG cl W (.augSub o i op e) m h=(aC cl o m [] h).bind fun x=>(aC cl i m [] x.2).bind fun y=>(fS y.2 x.1 y.1).bind fun a=>(aC cl e m [] y.2).bind fun v=>(jl v.2 op a v.1).bind fun r=>(dq r.2 x.1 y.1 r.1).bind fun h=>DJ (.next,m,h):=rfl
theorem Al(P:Nat->Option Fn)(n f vs):ad P W (n+1) f vs h=match P f with
 | some fn=>if vs.length=fn.np then (match cF (ad P W n) W fn.body (vs.map DJ++D0 (fn.nl - fn.np) none) h with
  | some (.ret v,_,h)=>DJ (v,h)
  | some (_,_,h)=>DJ (.none,h)
  | none=>none) else none
 | none=>none:=rfl
theorem Bv(g t b):gC g t b [] m h=if av h g then DJ (.next,m,h) else none:=rfl
theorem Bw(g t)(b:aZ->Hp->Option (Fl × aZ × Hp))(v vs):gC g t b (v::vs) m h=if av h g then (match bp m t v with
 | some m=>match b m h with
  | some (.ret v,m,h)=>DJ (.ret v,m,h)
  | some (_,m,h)=>gC g t b vs m h
  | none=>none
 | none=>none) else none:=rfl
theorem Bx(hp:σ->Hp)(g f s):eW hp g f [] s=if av (hp s) g then DJ s else none:=rfl
theorem By(hp:σ->Hp)(g f v vs s):eW hp g f (v::vs) s=if av (hp s) g then (match f s v with
 | some s'=>eW hp g f vs s'
 | none=>none) else none:=rfl
theorem Am(t)(b:aZ->Hp->Option (Fl × aZ × Hp))(n):eX t b (n+1) m h=match t m h with
 | some (true,h)=>match b m h with
  | some (.ret v,m,h)=>DJ (.ret v,m,h)
  | some (_,m,h)=>eX t b n m h
  | none=>none
 | some (false,h)=>DJ (.next,m,h)
 | none=>none:=rfl
theorem Bz(n i):res h (n+1) (.int i)=DJ (.int i):=rfl
theorem CD(n s):res h (n+1) (.str s)=DJ (.str s):=rfl
theorem CE(n vs):res h (n+1) (.tup vs)=(vs.mapM (res h n)).map .tup:=rfl
theorem CF(n b):res h (n+1) (.bool b)=DJ (.int (if b then 1 else 0)):=rfl
theorem CG(n a):res h (n+1) (.ref a)=match h[a]? with
 | some (.list vs)=>(vs.mapM (res h n)).map .list
 | _=>none:=rfl
theorem Dx(vs):bZ h false (.tup vs)=DJ (vs,none):=rfl
end
theorem qJ{o:Option (Option AV)}{h h':Hp}{v:AV}(e:(match o with
  | some (DJ v)=>DJ (v,h)
  | _=>none)=DJ (v,h')):o=DJ (DJ v)/\h'=h:=by
 cases o with
 | none=>exact nO e
 | some o=>
  cases o with
  | none=>exact nO e
  | some w=>(refine jB e ?_);exact⟨rfl,rfl⟩
theorem vP{b:aZ->Hp->Option (Fl × aZ × Hp)}{G:Prop}(e:gC gd t b (v::vs) m h=DJ r)
  (k1:∀ m1 w m2 h2,av h gd=true->bp m t v=DJ m1->b m1 h=DJ (.ret w,m2,h2)->(.ret w,m2,h2)=r->G)
  (k2:∀ m1 fl m2 h2,av h gd=true->bp m t v=DJ m1->b m1 h=DJ (fl,m2,h2)->(∀ w,fl= .ret w->False)->gC gd t b vs m2 h2=DJ r->G):G:=by
 rewrite [Bw]at e;refine ifs e ?_;clear e;intro q e;cases hb:bp m t v with
 | none=>rewrite [hb]at e;cases e
 | some m1=>
  rewrite [hb]at e;replace e:(match b m1 h with
   | some (.ret v,m,h)=>DJ (.ret v,m,h)
   | some (_,m,h)=>gC gd t b vs m h
   | none=>none)=DJ r:=e
  cases hc:b m1 h with
  | none=>rewrite [hc]at e;cases e
  | some p=>
   rewrite [hc]at e;cases p with
   | mk fl p=>
    cases p with
    | mk m2 h2=>
     cases fl with
     | ret w=>exact k1 m1 w m2 h2 q hb hc (EU e)
     | next=>exact k2 m1 _ m2 h2 q hb hc (fun _ z=>by cases z) e
     | cont=>exact k2 m1 _ m2 h2 q hb hc (fun _ z=>by cases z) e
theorem si{t:aZ->Hp->Option (Bool × Hp)}{b:aZ->Hp->Option (Fl × aZ × Hp)}{G:Prop}(e:eX t b (n+1) m h=DJ r)
  (k0:∀ h1,t m h=DJ (false,h1)->(.next,m,h1)=r->G)
  (k1:∀ h1 w m2 h2,t m h=DJ (true,h1)->b m h1=DJ (.ret w,m2,h2)->(.ret w,m2,h2)=r->G)
  (k2:∀ h1 fl m2 h2,t m h=DJ (true,h1)->b m h1=DJ (fl,m2,h2)->(∀ w,fl= .ret w->False)->eX t b n m2 h2=DJ r->G):G:=by
 rewrite [Am]at e;cases ht:t m h with
 | none=>rewrite [ht]at e;cases e
 | some p=>
  rewrite [ht]at e;cases p with
  | mk x h1=>
   cases x with
   | false=>exact k0 h1 ht (EU e)
   | true=>
    replace e:(match b m h1 with
     | some (.ret v,m,h)=>DJ (.ret v,m,h)
     | some (_,m,h)=>eX t b n m h
     | none=>none)=DJ r:=e
    cases hc:b m h1 with
    | none=>rewrite [hc]at e;cases e
    | some p=>
     rewrite [hc]at e;cases p with
     | mk fl p=>
      cases p with
      | mk m2 h2=>
       cases fl with
       | ret w=>exact k1 h1 w m2 h2 ht hc (EU e)
       | next=>exact k2 h1 _ m2 h2 ht hc (fun _ z=>by cases z) e
       | cont=>exact k2 h1 _ m2 h2 ht hc (fun _ z=>by cases z) e
theorem tS{hp:σ->Hp}{f:σ->AV->Option σ}{G:Prop}(e:eW hp g f (v::vs) s=DJ r)
  (k:∀ s',av (hp s) g=true->f s v=DJ s'->eW hp g f vs s'=DJ r->G):G:=by
 rewrite [By]at e;refine ifs e ?_;clear e;intro q e;cases hf:f s v with
 | none=>rewrite [hf]at e;cases e
 | some s'=>rewrite [hf]at e;exact k s' q hf e
theorem vQ{P:Nat->Option Fn}{G:Prop}(e:ad P W (n+1) f vs h=DJ r)
  (k1:∀ fn w m2 h2,P f=DJ fn->vs.length=fn.np->cF (ad P W n) W fn.body (vs.map DJ++D0 (fn.nl - fn.np) none) h=DJ (.ret w,m2,h2)->(w,h2)=r->G)
  (k2:∀ fn fl m2 h2,P f=DJ fn->vs.length=fn.np->cF (ad P W n) W fn.body (vs.map DJ++D0 (fn.nl - fn.np) none) h=DJ (fl,m2,h2)->(∀ w,fl= .ret w->False)->(.none,h2)=r->G):G:=by
 rewrite [Al]at e;cases hf:P f with
 | none=>rewrite [hf]at e;cases e
 | some fn=>
  rewrite [hf]at e;refine ifs e ?_;clear e;intro q e;cases hc:cF (ad P W n) W fn.body (vs.map DJ++D0 (fn.nl - fn.np) none) h with
  | none=>rewrite [hc]at e;cases e
  | some p=>
   rewrite [hc]at e;cases p with
   | mk fl p=>
    cases p with
    | mk m2 h2=>
     cases fl with
     | ret w=>exact k1 fn w m2 h2 hf q hc (EU e)
     | next=>exact k2 fn _ m2 h2 hf q hc (fun _ z=>by cases z) (EU e)
     | cont=>exact k2 fn _ m2 h2 hf q hc (fun _ z=>by cases z) (EU e)
section
open List
theorem QL:(∀ (α β:Type) (a:Option α) (f:α->Option β),(a >>= f)=a.bind f)/\(∀ (α β:Type) (a:α) (f:α->Option β),El (DJ a) f=f a)/\(∀ (α β:Type) (f:α->Option β),El none f=none)/\(∀ (α β:Type) (a:α) (f:α->β),NE f (DJ a)=DJ (f a))/\(∀ (α β:Type) (f:α->β),NE f none=none)/\(∀ (α:Type) (a:α),(pure a:Option α)=DJ a)/\
 (∀ (α β:Type) (f:α->β) (a:α) (l:List α),(a::l).map f=f a::l.map f)/\(∀ (α β:Type) (f:α->β),([]:List α).map f=[])/\(∀ (α:Type) (a:α) (l m:List α),(a::l)++m=a::(l++m))/\(∀ (α:Type) (l:List α),[]++l=l)/\(∀ (α:Type) (n:Nat) (a:α),D0 (n+1) a=a::D0 n a)/\(∀ (α:Type) (a:α),D0 0 a=[])/\
 (∀ (α:Type) (a:α) (l:List α),(a::l)[0]? =DJ a)/\(∀ (α:Type) (a:α) (l:List α) (i:Nat),(a::l)[i+1]? =l[i]?)/\(∀ (α:Type) (a b:α) (l:List α),(a::l).set 0 b=b::l)/\(∀ (α:Type) (a b:α) (l:List α) (i:Nat),(a::l).set (i+1) b=a::l.set i b)/\(∀ (α:Type) (a:α) (l:List α),(a::l).length=l.length+1)/\(∀ (α:Type),([]:List α).length=0)/\(∀ (α:Type),([]:List α).isEmpty=true)/\(∀ (α:Type) (a:α) (l:List α),(a::l).isEmpty=false)/\(∀ n:Nat,0+n=n)/\(∀ (α:Type) (i:Decidable True) (a b:α),@ite α True i a b=a)/\(∀ (α:Type) (i:Decidable False) (a b:α),@ite α False i a b=b)/\((false=true)=False)/\(∀ i:Decidable True,@decide True i=true)/\(∀ i:Decidable False,@decide False i=false):=by
 refine⟨fun _ _ _ _=>rfl,fun _ _ _ _=>rfl,fun _ _ _=>rfl,fun _ _ _ _=>rfl,fun _ _ _=>rfl,fun _ _=>rfl,fun _ _ _ _ _=>rfl,fun _ _ _=>rfl,fun _ _ _ _=>rfl,fun _ _=>rfl,fun _ _ _=>rfl,fun _ _=>rfl,fun _ _ _=>rfl,fun _ _ _ _=>rfl,fun _ _ _ _=>rfl,fun _ _ _ _ _=>rfl,fun _ _ _=>rfl,fun _=>rfl,fun _=>rfl,fun _ _ _=>rfl,En,fun _ _ _ _=>if_pos trivial,fun _ _ _ _=>if_neg not_false,fE,fun _=>decide_eq_true trivial,fun _=>decide_eq_false not_false⟩
theorem gS{α:Type}{l:List α}{i:Nat}{a:α}:l[i]? =DJ a↔∃ h:i<l.length,l[i]=a:=DS
noncomputable def ai(H H':Hp):Prop:=∀ (k:Nat) (o:AO),H[k]? =DJ o->H'[k]? =DJ o
theorem ai.refl(H:Hp):ai H H:=fun _ _ e=>e
theorem ai.trans(a:ai H H')(b:ai H' H''):ai H H'':=fun k o e=>b k o (a k o e)
theorem ai.push(H:Hp)(T:Hp):ai H (H++T):=fun k o e=>by
 refine yF (Eh (gS.mp e).1) ?_;exact e
theorem ai.len{H H':Hp}(a:ai H H'):H.length<=H'.length:=by
 rcases Jk H.length with q | q
 ·exact bu (nat_lit 336605632) tt q
 ·have h1:H.length - 1<H.length:=Nat.sub_lt (by assumption) (by decide);have:=a (H.length - 1) _ (gE h1);have:=(gS.mp this).1;exact bS (nat_lit 361425158816148514) tt (Bd _ _) this
theorem bO(H:Hp)(o:AO):(H++[o])[H.length]? =DJ o:=by
 refine yF (D9 (DV _)) ?_;refine yF (EH _) ?_;rfl
theorem bE(hf:P f=DJ fn)(hl:vs.length=fn.np)
  (e:∃ m',cF (ad P W n) W fn.body (vs.map DJ++D0 (fn.nl - fn.np) none) H=DJ (.ret v,m',H')):ad P W (n+1) f vs H=DJ (v,H'):=by
 refine aq e ?_;clear e;intro m' e;simp only[Al,hf,hl,if_true,e]
theorem nL(hf:P f=DJ fn)(hl:vs.length=fn.np)
  (e:∃ m',cF (ad P W n) W fn.body (vs.map DJ++D0 (fn.nl - fn.np) none) H=DJ (.next,m',H')):ad P W (n+1) f vs H=DJ (.none,H'):=by
 refine aq e ?_;clear e;intro m' e;simp only[Al,hf,hl,if_true,e]
theorem pJ{body:aZ->Hp->Option (Fl × aZ × Hp)}(St:List AV->aZ->Hp->Prop):∀ (vs pre:List AV) (m:aZ) (h:Hp),
  (∀ pre m h,St pre m h->av h gd=true)->
  (∀ p v q m h,pre++vs=p++v::q->St p m h->∃ m1,bp m t v=DJ m1/\∃ fl m' h',body m1 h=DJ (fl,m',h')/\(∀ w,fl≠ .ret w)/\St (p++[v]) m' h')->
  St pre m h->∃ m' h',gC gd t body vs m h=DJ (.next,m',h')/\St (pre++vs) m' h'
 | [],pre,m,h,hg,_,s=>⟨m,h,by (dsimp only[Bv];refine DK (if_pos (hg _ _ _ s)) ?_;rfl),by refine yF (EC _) ?_;exact s⟩
 | v::vs,pre,m,h,hg,hs,s=>by
  refine af (hs pre v vs m h rfl s) fun m1 e1 z16=>?_;refine tL z16 fun fl m2 h2 e2 hr s2=>?_;clear z16;have ih:=pJ St vs (pre++[v]) m2 h2 hg (fun p w q m h e=>hs p w q m h (by refine DK ?_ e;simp)) s2;refine fL ih fun m3 h3 e3 s3=>?_;clear ih;refine⟨m3,h3,?_,by rw[D1]at s3;exact s3⟩;dsimp only[Bw];refine yF (if_pos (hg _ _ _ s)) ?_;simp only[e1,e2];cases fl with
  | next=>exact e3
  | cont=>exact e3
  | ret w=>exact absurd rfl (hr w)
theorem kH{hp:τ->Hp}{f:τ->AV->Option τ}(St:List AV->τ->Prop):∀ (vs pre:List AV) (x:τ),
  (∀ pre x,St pre x->av (hp x) gd=true)->(∀ p v q x,pre++vs=p++v::q->St p x->∃ x',f x v=DJ x'/\St (p++[v]) x')->
  St pre x->∃ x',eW hp gd f vs x=DJ x'/\St (pre++vs) x'
 | [],pre,x,hg,_,s=>⟨x,by (dsimp only[Bx];refine DK (if_pos (hg _ _ s)) ?_;rfl),by refine yF (EC _) ?_;exact s⟩
 | v::vs,pre,x,hg,hs,s=>by
  refine af (hs pre v vs x rfl s) fun x1 e1 s1=>?_;refine af (kH St vs (pre++[v]) x1 hg (fun p w q x e=>hs p w q x (by refine DK ?_ e;simp)) s1) fun x2 e2 s2=>?_;refine⟨x2,?_,by rw[D1]at s2;exact s2⟩;dsimp only[By];refine yF (if_pos (hg _ _ s)) ?_;simp only[e1];exact e2
theorem qK{test:aZ->Hp->Option (Bool × Hp)}{body:aZ->Hp->Option (Fl × aZ × Hp)}(St:Nat->aZ->Hp->Prop)(Fin:aZ->Hp->Prop):∀ (k:Nat) (W:Nat) (m:aZ) (h:Hp),k<W->St k m h->
  (∀ k m h,St k m h->(∃ h',test m h=DJ (false,h')/\Fin m h')\/(∃ h',test m h=DJ (true,h')/\∃ fl m' h2,body m h'=DJ (fl,m',h2)/\(∀ w,fl≠ .ret w)/\∃ k',k'<k/\St k' m' h2))->
  ∃ m' h',eX test body W m h=DJ (.next,m',h')/\Fin m' h':=by
 intro k;induction k using Nat.strongRecOn with
 | ind k ih=>
  intro W m h hk s hs;cases W with
  | zero=>norm_cast
  | succ W=>
   rcases hs k m h s with⟨h',e,f⟩ | ⟨h',e,fl,m',h2,e2,hr,k',hk',s'⟩
   ·exact⟨m,h',by (dsimp only[Am];refine yF e ?_;rfl),f⟩
   ·refine fL (ih k' hk' W m' h2 (bS (nat_lit 397454830840887330) tt hk' hk) s' hs) fun m3 h3 e3 f3=>?_;refine⟨m3,h3,?_,f3⟩;dsimp only[Am];refine yF e ?_;simp only[e2];cases fl with
    | next=>exact e3
    | cont=>exact e3
    | ret w=>exact absurd rfl (hr w)
theorem aD(H:Hp)(a b:Int):rZ H (.int a) (.int b)=DJ (decide (a=b)):=by
 by_cases h:a=b
 ·subst h;exact congrArg DJ ((decide_eq_true rfl).trans (decide_eq_true rfl).symm)
 ·exact congrArg DJ ((decide_eq_false fun e=>h (D.int.inj e)).trans (decide_eq_false h).symm)
theorem bG(H:Hp)(a b:Nm):rZ H (.str a) (.str b)=DJ (decide (a=b)):=by
 by_cases h:a=b
 ·subst h;exact congrArg DJ ((decide_eq_true rfl).trans (decide_eq_true rfl).symm)
 ·exact congrArg DJ ((decide_eq_false fun e=>h (D.str.inj e)).trans (decide_eq_false h).symm)
theorem sj{a b:Nat}(ha:a<4294967296)(hb:b<1024):bA .shl a b=DJ ((a * 2 ^ b:Nat):Int):=by
 unfold bA nF fw;simp only;refine DK (if_pos (by lia)) ?_;simp
theorem so{a b:Nat}(hb:b<1024):bA .shr a b=DJ ((a / 2 ^ b:Nat):Int):=by
 unfold bA nF;simp only;refine DK (if_pos (by lia)) ?_;simp
theorem tT{a b:Nat}:bA .band a b=DJ ((a &&& b:Nat):Int):=by
 unfold bA band;simp
theorem sq{a b:Nat}:bA .bor a b=DJ ((a ||| b:Nat):Int):=by
 unfold bA bor;simp
theorem w7{a b:Nat}:bA (.bxor ()) a b=DJ ((a ^^^ b:Nat):Int):=by
 unfold bA bxor;simp
theorem zQ{a b:Nat}:bA .add a b=DJ ((a+b:Nat):Int):=by
 unfold bA;simp
theorem tU{a b:Nat}(h0:0<b)(h1:b<4294967296):bA .fdiv a b=DJ ((a / b:Nat):Int):=by
 unfold bA fw;simp only;refine DK (if_pos (by lia)) ?_;simp
theorem zR{a b:Nat}(h0:0<b):bA .mod a b=DJ ((a % b:Nat):Int):=by
 unfold bA;simp only;refine DK (if_pos (G9.mpr (by first | assumption | decide))) ?_;simp
theorem bJ(e:mG cl W s m h=DJ (.next,m1,h1))(e2:cF cl W ss m1 h1=r):cF cl W (s::ss) m h=r:=bs e e2
theorem bM(e:mG cl W s m h=DJ (.ret v,m1,h1)):cF cl W (s::ss) m h=DJ (.ret v,m1,h1):=bs e rfl
theorem qL(z n:Nat)(hn:n<z):gz (.int n) (fun n=>if 0<=n/\n<z then DJ ((Ec n.toNat).map fun (i:Nat)=>AV.int i,(none:Option (Nat × AO))) else .none)=DJ ((Ec n).map fun (i:Nat)=>AV.int i,none):=by
 have:(0:Int)<=(n:Int)/\(n:Int)<(z:Int):=⟨FL n,G9.mpr hn⟩;unfold gz;dsimp only;refine DK (if_pos this) ?_;refine yF (F9 _) ?_;rfl
theorem dK(h:Hp)(n:Nat)(hn:n<bo):bZ h true (.int n)=DJ ((Ec n).map fun (i:Nat)=>AV.int i,none):=qL bo n hn
theorem aF(h:Hp)(a:Nat)(vs:List AV)(e:h[a]? =DJ (.list vs)):bZ h false (.ref a)=DJ (vs,DJ (a,.list vs)):=by
 dsimp only[l7];refine yF e ?_;rfl
theorem Bf(h:Hp)(vs:List AV):bZ h false (.tup vs)=DJ (vs,none):=rfl
theorem aV(h:n<=1000):n<bo:=Ek h (by decide)
theorem pK{body:aZ->Hp->Option (Fl × aZ × Hp)}(St:Nat->aZ->Hp->Prop)
  (hg:∀ j m h,St j m h->av h gd=true)
  (hs:∀ j v m h,vs[j]? =DJ v->St j m h->∃ m1,bp m t v=DJ m1/\∃ fl m' h',body m1 h=DJ (fl,m',h')/\(∀ w,fl≠ .ret w)/\St (j+1) m' h')
  (s:St 0 m h):∃ m' h',gC gd t body vs m h=DJ (.next,m',h')/\St vs.length m' h':=by
 refine fL (pJ (gd:=gd) (t:=t) (body:=body) (fun p m h=>St p.length m h) vs [] m h (fun p m h s=>hg _ m h s)
  (fun p v q m h e s=>by
   rw[dR]at e;refine af (hs p.length v m h (by (refine yF e ?_;refine DK (D9 (DV _)) ?_;refine yF (EH _) ?_);rfl) s) fun m1 e1 z16=>?_;refine tL z16 fun fl m2 h2 e2 hr s2=>?_;clear z16;exact⟨m1,e1,fl,m2,h2,e2,hr,by refine yF DU ?_;exact s2⟩) s) fun m' h' e r=>?_
 exact⟨m',h',e,by simpa using r⟩
theorem gK{hp:τ->Hp}{f:τ->AV->Option τ}(St:Nat->τ->Prop)
  (hg:∀ j x,St j x->av (hp x) gd=true) (hs:∀ j v x,vs[j]? =DJ v->St j x->∃ x',f x v=DJ x'/\St (j+1) x') (s:St 0 x):∃ x',eW hp gd f vs x=DJ x'/\St vs.length x':=by
 refine af (kH (hp:=hp) (gd:=gd) (f:=f) (fun p x=>St p.length x) vs [] x (fun p x s=>hg _ x s)
  (fun p v q x e s=>by
   rw[dR]at e;refine af (hs p.length v x (by (refine yF e ?_;refine DK (D9 (DV _)) ?_;refine yF (EH _) ?_);rfl) s) fun x1 e1 s1=>?_;exact⟨x1,e1,by refine yF DU ?_;exact s1⟩) s) fun x' e r=>?_
 exact⟨x',e,by simpa using r⟩
theorem g9{t:rW}{body:aZ->Hp->Option (Fl × aZ × Hp)}(St:Nat->aZ->Hp->Prop){k:Nat}{m:aZ}{h:Hp}
  (hs:∀ j m h,j<k->St j m h->∃ m1,bp m t (.int j)=DJ m1/\∃ fl m' h',body m1 h=DJ (fl,m',h')/\(∀ w,fl≠ .ret w)/\St (j+1) m' h')
  (s:St 0 m h):∃ m' h',gC none t body ((Ec k).map fun (i:Nat)=>AV.int i) m h=DJ (.next,m',h')/\St k m' h':=by
 refine fL (pK (gd:=none) (t:=t) (body:=body) St (vs:=(Ec k).map fun (i:Nat)=>AV.int i) (m:=m) (h:=h) (fun _ _ _ _=>rfl) (fun j v m h e s=>by
  have hj:j<k:=by have:=(gS.mp e).1;simpa using this
  rw[DX,Ff hj]at e;refine jA e ?_;exact hs j m h hj s) s) fun m' h' e r=>?_
 exact⟨m',h',e,by simpa using r⟩
theorem sr(H:Hp)(o o':AO):(H++[o]).set H.length o'=H++[o']:=by
 refine DK (HE _ _ (DV _)) ?_;refine yF (EH _) ?_;rfl
theorem ld{rng:Bool}(e1:aC cl it m [] h=DJ (x,h1))(e2:bZ h1 rng x=DJ (vs,gd)):
  mG cl W (.for_ t rng it b) m h=gC gd t (fun m h=>cF cl W b m h) vs m h1:=bs e1 (bs e2 rfl)
theorem vR:mG cl W (.while_ t b) m h=eX (f9 cl t) (fun m h=>cF cl W b m h) W m h:=rfl
theorem js{rng:Bool}(e1:aC cl it m c h=DJ (x,h1))(e2:bZ h1 rng x=DJ (vs,gd))
  (e3:eW (fun (s:aZ × Hp × List AV)=>s.2.1) gd (fun (s:aZ × Hp × List AV) v=>do
   let c' <- bp s.1 t v
   m8 cl g m c' s.2.1 s.2.2) vs (D0 k none,h1,[])=DJ (c',h2,acc)):aC cl (.comp k t rng it g) m c h=DJ (.ref h2.length,h2++[.list acc]):=bs e1 (bs e2 (bs e3 rfl))
theorem iF(vs:List AV)(j:Nat):eM vs (j:Int)=vs[j]? :=by
 unfold eM;refine DK (if_pos (FL j)) ?_;refine yF (F9 _) ?_;rfl
theorem uQ{b:Nat}(hb:b<1024):bA .shl 1 b=DJ ((2 ^ b:Nat):Int):=by
 have:=sj (a:=1) (b:=b) (by decide) hb;simpa using this
theorem nN{a:Nat}:bA .band a 1=DJ ((a &&& 1:Nat):Int):=by
 have:=tT (a:=a) (b:=1);simpa using this
noncomputable def az(l:List Nat):List AV:=l.map fun (i:Nat)=>AV.int i
theorem mo{l:List Nat}{j:Nat}(h:j<l.length):(az l)[j]? =DJ (.int (l.getD j 0:Nat)):=by
 unfold az;refine DK DX ?_;refine yF (gE h) ?_;simp[OL,h]
theorem bT(l:List Nat):(az l).length=l.length:=by unfold az;simp
theorem cH(e1:aC cl e m [] h=DJ (v,h1))(e2:bp m t v=DJ m1):mG cl W (.assign t e) m h=DJ (.next,m1,h1):=bs e1 (bs e2 rfl)
theorem aJ(e1:iP cl es m c h=DJ (vs,h1))(e2:cl f vs h1=r):aC cl (.call f es) m c h=r:=bs e1 e2
theorem cX(e1:aC cl e m [] h=DJ (v,h1)):mG cl W (.ret e) m h=DJ (.ret v,m,h1):=bs e1 rfl
theorem jt(e1:aC cl e m [] h=DJ (v,h1)):mG cl W (.expr e) m h=DJ (.next,m,h1):=bs e1 rfl
theorem aO{c:Bool}(e1:f9 cl t m h=DJ (c,h))(e2:c=true->aC cl e m [] h=DJ (v,h))(e3:c=false->cF cl W ss m h=r):
  cF cl W (.ite t [.ret e] []::ss) m h=if c=true then DJ (.ret v,m,h) else r:=by
 cases c with
 | true=>
  have e2:=e2 rfl;refine bM ?_;exact bs e1 (bM (cX e2))
 | false=>
  refine yF (if_neg EY) ?_;refine bJ (m1:=m) (h1:=h) ?_ (e3 rfl);exact bs e1 rfl
theorem yT{b:Nat}(hb:b<1024):bA .shl 1 b=DJ ((2 ^ b:Nat):Int):=by
 have:=sj (a:=1) (b:=b) (by decide) hb;simpa using this
theorem An{b:Nat}:rZ H (.int b) (.int 1)=DJ (decide (b=1)):=by
 refine DK (aD _ _ _) ?_;by_cases h:b=1
 ·subst h;simp
 ·have:¬ ((b:Int)=1):=by norm_cast
  simp[h,this]
theorem yU{W n k:Nat}(hk:k<=3):ad P W (n+1) 14 [.int k] H=DJ (.int ((2 ^ 2 ^ k - 1:Nat):Int),H):=by
 have:=B3 hk;rcases this with rfl | rfl | rfl | rfl<;>rfl
noncomputable def qM(i k:Nat):Nat:=(2 ^ 2 ^ k - 1) ^^^ ((2 ^ 2 ^ k - 1) / (2 ^ 2 ^ i+1))
theorem su{W n i k:Nat}(hk:k<=3)(hi:i<k):ad P W (n+2) 15 [.int i,.int k] H=DJ (.int (qM i k:Nat),H):=by
 have:(k=1/\i=0)\/(k=2/\i=0)\/(k=2/\i=1)\/(k=3/\i=0)\/(k=3/\i=1)\/(k=3/\i=2):=Dj k (Nat.lt_succ_of_le hk) i hi;rcases this with⟨rfl,rfl⟩ | ⟨rfl,rfl⟩ | ⟨rfl,rfl⟩ | ⟨rfl,rfl⟩ | ⟨rfl,rfl⟩ | ⟨rfl,rfl⟩<;>rfl
noncomputable def w8(t i bit k:Nat):Nat:=
 if bit=1 then (t &&& qM i k) ||| ((t &&& qM i k) / 2 ^ 2 ^ i) else (t ^^^ (t &&& qM i k)) ||| ((t ^^^ (t &&& qM i k)) * 2 ^ 2 ^ i)
theorem nP{W n t i bit k:Nat}(hk:k<=3)(hi:i<k)(ht:t<256):ad P W (n+3) 16 [.int t,.int i,.int bit,.int k] H=DJ (.int (w8 t i bit k:Nat),H):=by
 have h15:=su (W:=W) (n:=n) (H:=H) hk hi;have hand:t &&& qM i k<=t:=Kn;have hx:t ^^^ (t &&& qM i k)<256:=Nat.xor_lt_two_pow (n:=8) ht (Ek hand ht);have h2:2 ^ i<=4:=by
  have:i=0\/i=1\/i=2:=by lia
  rcases this with rfl | rfl | rfl<;>decide
 refine bE (fn:=kv) rfl rfl ?_;unfold kv;have e1:=yT (b:=i) (bu (nat_lit 13277330793937849793) tt hi hk);have e2:=so (a:=t &&& qM i k) (b:=2 ^ i) (Ek h2 (by decide));have e3:=sj (a:=t ^^^ (t &&& qM i k)) (b:=2 ^ i) (Ea hx (by decide)) (Ek h2 (by decide));have e4:rZ H (.int bit) (.int 1)=DJ (decide (bit=1)):=An;by_cases hb:bit=1
 ·simp only[bd,aB,aU,jQ,aK,ej,aw,aA,cW,bt,ec,tQ,tR,yP,qI,yQ,bp,oB,oM,mC,mN,dS,dR,Ee,DY,EF,EZ,D6,Et,En,if_true,Nat.reduceAdd,Nat.reduceLT,Nat.reduceSub,h15,e1,e2,e3,e4,tT,sq,w7,hb,w8];exact⟨_,rfl⟩
 ·simp only[bd,aB,aU,jQ,aK,ej,aw,aA,cW,cq,bt,ec,tQ,tR,yP,qI,yQ,bp,oB,oM,mC,mN,dS,dR,Ee,DY,EF,EZ,D6,Et,En,if_true,if_false,Nat.reduceAdd,Nat.reduceLT,Nat.reduceSub,fE,decide_false,h15,e1,e2,e3,e4,tT,sq,w7,hb,w8];exact⟨_,rfl⟩
noncomputable def yH(t i k:Nat):Bool:=decide (w8 t i 0 k≠w8 t i 1 k)
theorem vS{W n t i k:Nat}(hk:k<=3)(hi:i<k)(ht:t<256):ad P W (n+4) 17 [.int t,.int i,.int k] H=DJ (.bool (yH t i k),H):=by
 have c0:=nP (W:=W) (n:=n) (bit:=0) (H:=H) hk hi ht;have c1:=nP (W:=W) (n:=n) (bit:=1) (H:=H) hk hi ht;simp only[Int.natCast_zero,Int.natCast_one]at c0 c1;refine bE (fn:=md) rfl rfl ?_;unfold md;simp only[bd,aB,aU,aK,ej,aw,aA,se,tQ,tR,qI,oB,oM,mC,mN,dS,dR,DY,Nat.reduceSub,c0,c1,aD];have:(!decide ((w8 t i 0 k:Int)=w8 t i 1 k))=yH t i k:=by
  unfold yH;by_cases h:w8 t i 0 k=w8 t i 1 k
  ·simp[h]
  ·have:¬ ((w8 t i 0 k:Int)=w8 t i 1 k):=by lia
   simp[h,this]
 refine yF this ?_;exact⟨_,rfl⟩
noncomputable def cI(t k:Nat):List Nat:=(Ec k).filter fun i=>yH t i k
theorem qN(t k:Nat):(cI t k).length<=k:=by
 have:=EI (fun i=>yH t i k) (Ec k);simpa[cI] using this
theorem vT{W n t k:Nat}(hk:k<=3)(ht:t<256):ad P W (n+5) 18 [.int t,.int k] H=DJ (.ref H.length,H++[.list ((cI t k).map fun (i:Nat)=>AV.int i)]):=by
 refine bE (fn:=mf) rfl rfl ?_;unfold mf;have loop:=g9 (t:= .one 3) (body:=fun m h=>cF (ad P W (n+4)) W [.ite (.call 17 [(.loc 0),(.loc 3),(.loc 1)]) [.expr (.bm .append (.loc 2) [(.loc 3)])] []] m h)
  (fun j m h=>∃ x,m=[DJ (.int t),DJ (.int k),DJ (.ref H.length),x]/\h=H++[.list (((Ec j).filter fun i=>yH t i k).map fun (i:Nat)=>AV.int i)]) (k:=k)
  (m:=[DJ (.int t),DJ (.int k),DJ (.ref H.length),none]) (h:=H++[.list []]) (fun j m h hj s=>by
   refine af s fun x z2 z3=>?_;clear s;subst z2;subst z3;have hd:=vS (W:=W) (n:=n) (H:=H++[.list (((Ec j).filter fun i=>yH t i k).map fun (i:Nat)=>AV.int i)]) hk hj ht;refine⟨_,rfl,?_⟩;have hl:(((Ec j).filter fun i=>yH t i k).map fun (i:Nat)=>AV.int i).length<bo:=aV (by
    refine yF (DR _) ?_;have:=EI (fun i=>yH t i k) (Ec j);rw[E8]at this;exact bS (nat_lit 407252732435912969244098) tt this hj hk)
   cases hdep:yH t j k with
   | true=>
    rw[hdep]at hd;simp only[aB,aU,ej,mj,aw,aA,cW,cq,tQ,tR,Bs,yQ,fm,oB,EF,EZ,if_true,hd,vM,Ak,bO,hl,sr];refine⟨_,_,_,rfl,by intro w;simp,_,rfl,?_⟩;refine yF Gr ?_;refine yF (FN _ _) ?_;refine yF Ez ?_;simp[hdep]
   | false=>
    rw[hdep]at hd;simp only[aB,aU,ej,mj,aw,aA,cW,cq,tQ,tR,Bs,yQ,oB,EF,EZ,if_false,fE,hd];refine⟨_,_,_,rfl,by intro w;simp,_,rfl,?_⟩;refine yF Gr ?_;refine yF (FN _ _) ?_;refine yF Ez ?_;simp[hdep]) ⟨none,rfl,rfl⟩
 refine fL loop fun m' h' e z16=>?_;clear loop;refine af z16 fun x z72 z73=>?_;clear z16;subst z72;subst z73;have hr:=dK (H++[.list []]) k (aV (DO hk (by decide)));refine⟨_,bJ (m1:=[DJ (.int t),DJ (.int k),DJ (.ref H.length),none]) (h1:=H++[.list []]) rfl (bJ ((ld rfl hr).trans e) (bM rfl))⟩
noncomputable def dU(m:Nat)(pl:List Nat)(n:Nat):Nat:=(Ec n).foldl (fun row j=>row ||| ((m / 2 ^ j &&& 1) * 2 ^ (pl.getD j 0))) 0
theorem lf(m:Nat)(pl:List Nat)(n:Nat):dU m pl (n+1)=dU m pl n ||| ((m / 2 ^ n &&& 1) * 2 ^ (pl.getD n 0)):=by
 unfold dU;refine yF Gr ?_;refine DK Ga ?_;rfl
theorem uR(a:Nat):a &&& 1<4294967296:=Ek HT (by decide)
theorem w9{W n m r:Nat}{pl:List Nat}(hr:H[r]? =DJ (.list (az pl)))(hl:pl.length<=1000)(hp:∀ p∈pl,p<1000):ad P W (n+1) 19 [.int m,.ref r] H=DJ (.int (dU m pl pl.length:Nat),H):=by
 refine bE (fn:=nH) rfl rfl ?_;unfold nH;have loop:=g9 (t:= .one 3) (body:=fun m h=>cF (ad P W n) W [.augLoc 2 .bor (.bin .shl (.bin .band (.bin .shr (.loc 0) (.loc 3)) (.const (.int 1))) (.sub (.loc 1) (.loc 3)))] m h)
  (fun j mm h=>∃ x,mm=[DJ (.int m),DJ (.ref r),DJ (.int (dU m pl j:Nat)),x]/\h=H) (k:=pl.length)
  (m:=[DJ (.int m),DJ (.ref r),DJ (.int 0),none]) (h:=H) (fun j mm h hj s=>by
   refine af s fun x z2 z3=>?_;clear s;subst z2;subst z3;have hg:=mo hj;have hpj:pl.getD j 0<1000:=by
    refine yF Ei ?_;refine yF (gE hj) ?_;exact hp _ (Ey hj)
   have e1:=so (a:=m) (b:=j) (bu (nat_lit 13595986732992363974081) tt hj hl);have e2:=sj (a:=m / 2 ^ j &&& 1) (b:=pl.getD j 0) (uR _) (Ea hpj (by decide));refine⟨_,rfl,?_⟩;simp only[bd,aB,aU,jQ,bD,ec,vJ,tQ,tR,yR,bp,kG,oB,oM,EF,EZ,D6,Et,En,if_true,Nat.reduceAdd,Nat.reduceLT,e1,nN,hr,iF,hg,e2,sq];refine yB (lf _ _ _) ?_;exact⟨_,_,_,rfl,by intro w;simp,_,rfl,rfl⟩) ⟨none,rfl,rfl⟩
 refine fL loop fun m' h' e z16=>?_;clear loop;refine af z16 fun x z72 z73=>?_;clear z16;subst z72;subst z73;have hi:=dK h' pl.length (aV hl);exact⟨_,bJ (m1:=[DJ (.int m),DJ (.ref r),DJ (.int 0),none]) (h1:=h') rfl (bJ ((ld (by simp only[aB,aU,cO,aw,aA,vO,fm,oB,hr,bT]<;>rfl) hi).trans e) (bM (by simp only[aB,aU,qI,oB]<;>rfl)))⟩
noncomputable def shrinkS(t k n:Nat):Nat:=(Ec n).foldl (fun r m=>r ||| ((t / 2 ^ (dU m (cI t k) (cI t k).length) &&& 1) * 2 ^ m)) 0
theorem qO(t k n:Nat):shrinkS t k (n+1)=shrinkS t k n ||| ((t / 2 ^ (dU n (cI t k) (cI t k).length) &&& 1) * 2 ^ n):=by
 unfold shrinkS;refine yF Gr ?_;refine DK Ga ?_;rfl
theorem gL(h:p∈cI t k):p<k:=by
 unfold cI at h;rw[E5]at h;simpa using h.1
theorem tV(hk:k<=3)(hn:n<=(cI t k).length):dU m (cI t k) n<8:=by
 induction n with
 | zero=>unfold dU;simp
 | succ n ih=>
  refine yF (lf _ _ _) ?_;refine JE (n:=3) (ih (bu (nat_lit 11029812889024) tt hn)) ?_;have h1:(cI t k).getD n 0<3:=by
   refine yF Ei ?_;refine yF (gE (by with_unfolding_all exact bu (nat_lit 12129324516800) tt hn)) ?_;have:=gL (Ey (l:=cI t k) (n:=n) (bu (nat_lit 12129324516800) tt hn));simp only[Option.getD_some];exact Ea this hk
  have h2:m / 2 ^ n &&& 1<=1:=HT;have h3:2 ^ ((cI t k).getD n 0)<=4:=by
   have:(cI t k).getD n 0=0\/(cI t k).getD n 0=1\/(cI t k).getD n 0=2:=by lia
   rcases this with q | q | q<;>refine yF q ?_<;>decide
  calc (m / 2 ^ n &&& 1) * 2 ^ ((cI t k).getD n 0)<=1 * 4:=Nat.mul_le_mul h2 h3
   _<2 ^ 3:=by decide
theorem vU{W n t k:Nat}(hk:k<=3)(ht:t<256):ad P W (n+5) 18 [.int t,.int k] H=DJ (.ref H.length,H++[.list (az (cI t k))]):=by
 unfold az;exact vT hk ht
theorem xc{W n t k:Nat}(hk:k<=3)(ht:t<256):ad P W (n+6) 20 [.int t,.int k] H=DJ (.tup [.int (shrinkS t k (2 ^ (cI t k).length):Nat),.ref H.length],H++[.list (az (cI t k))]):=by
 refine bE (fn:=nJ) rfl rfl ?_;unfold nJ;have hs:=vU (W:=W) (n:=n) (H:=H) hk ht;have hle:=qN t k;have hp:2 ^ (cI t k).length<=8:=by
  have:(cI t k).length=0\/(cI t k).length=1\/(cI t k).length=2\/(cI t k).length=3:=by lia
  rcases this with q | q | q | q<;>refine yF q ?_<;>decide
 have hg:(H++[AO.list (az (cI t k))])[H.length]? =DJ (.list (az (cI t k))):=bO _ _;have sp:∀ j:Nat,ad P W (n+5) 19 [.int j,.ref H.length] (H++[AO.list (az (cI t k))])=DJ (.int (dU j (cI t k) (cI t k).length:Nat),H++[AO.list (az (cI t k))]):=fun j=>w9 (W:=W) (n:=n+4) (m:=j) hg (bu (nat_lit 12428367078732680641) tt hle hk) (fun p hp=>by have:=gL hp;exact bu (nat_lit 13581288584413269441) tt this hk);have hlt:∀ j:Nat,dU j (cI t k) (cI t k).length<8:=fun j=>tV (t:=t) (m:=j) hk (DV _);have hsucc:=qO t k;have h0:shrinkS t k 0=0:=rfl;have e3:=uQ (b:=(cI t k).length) (Ek (DO hle hk) (by decide));have hlen:=bT (cI t k);generalize ad P W (n+5)=cl at hs sp ⊢;generalize shrinkS t k=S0 at hsucc h0 ⊢;generalize az (cI t k)=sv at hs hg sp hlen ⊢;generalize hL:(cI t k).length=L at *;generalize hSp:(fun j=>dU j (cI t k) L)=SP at *;have hSp':∀ j,dU j (cI t k) L=SP j:=fun j=>by (refine yB hSp ?_;rfl)
 simp only[hSp']at sp hlt hsucc;have loop:=g9 (t:= .one 4) (body:=fun m h=>cF cl W [.augLoc 3 .bor (.bin .shl (.bin .band (.bin .shr (.loc 0) (.call 19 [(.loc 4),(.loc 2)])) (.const (.int 1))) (.loc 4))] m h)
  (fun j mm h=>∃ x,mm=[DJ (.int t),DJ (.int k),DJ (.ref H.length),DJ (.int (S0 j:Nat)),x]/\h=H++[.list sv]) (k:=2 ^ L)
  (m:=[DJ (.int t),DJ (.int k),DJ (.ref H.length),DJ (.int 0),none]) (h:=H++[.list sv]) (fun j mm h hj s=>by
   refine af s fun x z2 z3=>?_;clear s;subst z2;subst z3;have sp':=sp j;have e1:=so (a:=t) (b:=SP j) (by have:=hlt j;exact Ea this (by decide));have e2:=sj (a:=t / 2 ^ SP j &&& 1) (b:=j) (uR _) (bu (nat_lit 13277330793937854913) tt hj hp);refine⟨_,by simp only[bp,EF,EZ,D6,Et,En,if_true,Nat.reduceAdd,Nat.reduceLT]<;>rfl,?_⟩;simp only[bd,aB,aU,jQ,ej,aw,aA,ec,vJ,tQ,tR,yR,bp,oB,oM,EF,EZ,D6,Et,En,if_true,Nat.reduceAdd,Nat.reduceLT,sp',e1,nN,e2,sq];refine yB (hsucc _) ?_;exact⟨_,_,_,rfl,by intro w;simp,_,rfl,rfl⟩) ⟨none,by refine yF h0 ?_;rfl,rfl⟩
 refine fL loop fun m' h' e z16=>?_;clear loop;refine af z16 fun x z72 z73=>?_;clear z16;subst z72;subst z73;have hi:=dK (H++[.list sv]) (2 ^ L) (aV (DO hp (by decide)));generalize 2 ^ L=N at *;have ev:aC cl (.bin .shl (.const (.int 1)) (.bi .len [(.loc 2)])) [DJ (.int t),DJ (.int k),DJ (.ref H.length),DJ (.int 0),none] [] (H++[.list sv])=DJ (.int (N:Nat),H++[.list sv]):=by
  simp only[bd,aB,aU,jQ,cO,aw,aA,ec,vO,fm,oB,oM,hg,hlen,e3]
 have s1:mG cl W (.assign (.one 2) (.call 18 [(.loc 0),(.loc 1)])) [DJ (.int t),DJ (.int k),none,none,none] H=DJ (.next,[DJ (.int t),DJ (.int k),DJ (.ref H.length),none,none],H++[.list sv]):=
  cH (aJ (vs:=[.int t,.int k]) (h1:=H) rfl hs) rfl
 have s2:mG cl W (.assign (.one 3) (.const (.int 0))) [DJ (.int t),DJ (.int k),DJ (.ref H.length),none,none] (H++[.list sv])=DJ (.next,[DJ (.int t),DJ (.int k),DJ (.ref H.length),DJ (.int 0),none],H++[.list sv]):=by
  simp only[bd,yP,bp,oB,EF,EZ,D6,Et,En,if_true,Nat.reduceAdd,Nat.reduceLT]
 have s4:mG cl W (.ret (.tup [(.loc 3),(.loc 2)])) [DJ (.int t),DJ (.int k),DJ (.ref H.length),DJ (.int (S0 N:Nat)),x] (H++[.list sv])=DJ (.ret (.tup [.int (S0 N:Nat),.ref H.length]),[DJ (.int t),DJ (.int k),DJ (.ref H.length),DJ (.int (S0 N:Nat)),x],H++[.list sv]):=by
  simp only[aB,aU,cG,aw,aA,qI,oB]
 exact⟨_,bJ s1 (bJ s2 (bJ ((ld ev hi).trans e) (bM s4)))⟩
noncomputable def aP:Nm:=[98,117,102]
noncomputable def bC:Nm:=[110,111,116]
noncomputable def eH:Nm:=[97,110,100]
noncomputable def fq:Nm:=[110,97,110,100]
noncomputable def kI:Nm:=[111,114]
noncomputable def jj:Nm:=[110,111,114]
noncomputable def fj:Nm:=[120,111,114]
noncomputable def gM:Nm:=[120,110,111,114]
noncomputable def ef:Nm:=[109,117,120]
noncomputable def df:Nm:=[108,117,116]
noncomputable def bU:Nm:=[99,101,108,108]
noncomputable def ft:Nm:=[102,108,111,112]
noncomputable def dL:Nm:=[108,97,116,99,104]
abbrev cw:=Nm × List Int
noncomputable def cw.v(f:cw):AV:= .tup [.str f.1,.tup (f.2.map .int)]
noncomputable def dD(a b:Int)(o:Bool):cw:=if (decide (a=0) || decide (b=0) || o)=true then (aP,[0]) else if (decide (a=1) || decide (a=b))=true then (aP,[b]) else if decide (b=1)=true then (aP,[a]) else (eH,[a,b])
theorem C4{x y z:Bool}(e1:aC cl a m [] h=DJ (.bool x,h))(e2:aC cl b m [] h=DJ (.bool y,h))(e3:aC cl c m [] h=DJ (.bool z,h)):f9 cl (.bop false [a,b,c]) m h=DJ (x || y || z,h):=by
 simp only[cW,w6,wY,wZ,e1,e2,e3,ED,oB,cq,F7];cases x<;>cases y<;>simp[truthy]
theorem Ao{x y:Bool}(e1:aC cl a m [] h=DJ (.bool x,h))(e2:aC cl b m [] h=DJ (.bool y,h)):f9 cl (.bop false [a,b]) m h=DJ (x || y,h):=by
 simp only[cW,w6,wY,wZ,e1,e2,ED,oB,cq,F7];cases x<;>simp[truthy]
theorem xd{x y:Bool}(e1:aC cl a m [] h=DJ (.bool x,h))(e2:aC cl b m [] h=DJ (.bool y,h)):f9 cl (.bop true [a,b]) m h=DJ (x&&y,h):=by
 simp only[cW,w6,wY,wZ,e1,e2,ED,oB,cq,F7];cases x<;>simp[truthy]
theorem cR{x:Bool}(e1:aC cl a m [] h=DJ (.bool x,h)):f9 cl a m h=DJ (x,h):=by
 simp only[cW,e1,ED,oB,cq,F7]
theorem gb{c:Bool}:(if c=true then DJ (Fl.ret x,m,h) else DJ (Fl.ret y,m,h))=DJ (Fl.ret (if c=true then x else y),m,h):=by cases c<;>rfl
theorem pL{c:Prop}[Decidable c]{x y:cw}:(if c then x.v else y.v)=(if c then x else y).v:=by split<;>rfl
theorem tW{W n:Nat}{a b:Int}{o:Bool}{H:Hp}:ad P W (n+1) 24 [.int a,.int b,.bool o] H=DJ ((dD a b o).v,H):=by
 refine bE (fn:=kw) rfl rfl ⟨[DJ (.int a),DJ (.int b),DJ (.bool o)],?_⟩;unfold kw;generalize ad P W n=cl;simp only[mC,mN,dS,dR,D6,Et,Nat.reduceAdd,En,Nat.reduceSub,DY];refine (aO (v:=cw.v (aP,[0])) (C4 (x:=decide (a=0)) (y:=decide (b=0)) (z:=o) (by simp only[bd,aB,aK,bt,oB,aD]) (by simp only[bd,aB,aU,aK,bt,oB,aD]) rfl) (fun _=>by simp only[bd,cG,aw,aA,oB]<;>rfl) fun _=>
  aO (v:=cw.v (aP,[b])) (Ao (x:=decide (a=1)) (y:=decide (a=b)) (by simp only[bd,aB,aK,bt,oB,aD]) (by simp only[aB,aU,aK,bt,oB,aD])) (fun _=>by simp only[bd,aB,aU,cG,aw,aA,oB]<;>rfl) fun _=>
  aO (v:=cw.v (aP,[a])) (cR (x:=decide (b=1)) (by simp only[bd,aB,aU,aK,bt,oB,aD])) (fun _=>by simp only[bd,aB,cG,aw,aA,oB]<;>rfl) fun _=>bM (v:=cw.v (eH,[a,b])) (by simp only[bd,aB,aU,cG,aw,aA,qI,oB]<;>rfl)).trans ?_
 simp only[gb,pL,dD]
noncomputable def eZ(a b:Int)(o:Bool):cw:=if (decide (a=1) || decide (b=1) || o)=true then (aP,[1]) else if (decide (a=0) || decide (a=b))=true then (aP,[b]) else if decide (b=0)=true then (aP,[a]) else (kI,[a,b])
theorem vV{W n:Nat}{a b:Int}{o:Bool}{H:Hp}:ad P W (n+1) 25 [.int a,.int b,.bool o] H=DJ ((eZ a b o).v,H):=by
 refine bE (fn:=mi) rfl rfl ⟨[DJ (.int a),DJ (.int b),DJ (.bool o)],?_⟩;unfold mi;generalize ad P W n=cl;simp only[mC,mN,dS,dR,D6,Et,Nat.reduceAdd,En,Nat.reduceSub,DY];refine (aO (v:=cw.v (aP,[1])) (C4 (x:=decide (a=1)) (y:=decide (b=1)) (z:=o) (by simp only[bd,aB,aK,bt,oB,aD]) (by simp only[bd,aB,aU,aK,bt,oB,aD]) rfl) (fun _=>by simp only[bd,cG,aw,aA,oB]<;>rfl) fun _=>
  aO (v:=cw.v (aP,[b])) (Ao (x:=decide (a=0)) (y:=decide (a=b)) (by simp only[bd,aB,aK,bt,oB,aD]) (by simp only[aB,aU,aK,bt,oB,aD])) (fun _=>by simp only[bd,aB,aU,cG,aw,aA,oB]<;>rfl) fun _=>
  aO (v:=cw.v (aP,[a])) (cR (x:=decide (b=0)) (by simp only[bd,aB,aU,aK,bt,oB,aD])) (fun _=>by simp only[bd,aB,cG,aw,aA,oB]<;>rfl) fun _=>bM (v:=cw.v (kI,[a,b])) (by simp only[bd,aB,aU,cG,aw,aA,qI,oB]<;>rfl)).trans ?_
 simp only[gb,pL,eZ]
noncomputable def dE(a b:Int)(o:Bool):cw:=if decide (a=b)=true then (aP,[0]) else if o=true then (aP,[1]) else if decide (a=0)=true then (aP,[b]) else if decide (b=0)=true then (aP,[a]) else if decide (a=1)=true then (bC,[b]) else if decide (b=1)=true then (bC,[a]) else (fj,[a,b])
theorem tX{W n:Nat}{a b:Int}{o:Bool}{H:Hp}:ad P W (n+1) 26 [.int a,.int b,.bool o] H=DJ ((dE a b o).v,H):=by
 refine bE (fn:=kz) rfl rfl ⟨[DJ (.int a),DJ (.int b),DJ (.bool o)],?_⟩;unfold kz;generalize ad P W n=cl;simp only[mC,mN,dS,dR,D6,Et,Nat.reduceAdd,En,Nat.reduceSub,DY];refine (aO (v:=cw.v (aP,[0])) (cR (x:=decide (a=b)) (by simp only[aB,aU,aK,bt,oB,aD])) (fun _=>by simp only[bd,cG,aw,aA,oB]<;>rfl) fun _=>
  aO (v:=cw.v (aP,[1])) (cR (x:=o) rfl) (fun _=>by simp only[bd,cG,aw,aA,oB]<;>rfl) fun _=>
  aO (v:=cw.v (aP,[b])) (cR (x:=decide (a=0)) (by simp only[bd,aB,aK,bt,oB,aD])) (fun _=>by simp only[bd,aB,aU,cG,aw,aA,oB]<;>rfl) fun _=>
  aO (v:=cw.v (aP,[a])) (cR (x:=decide (b=0)) (by simp only[bd,aB,aU,aK,bt,oB,aD])) (fun _=>by simp only[bd,aB,cG,aw,aA,oB]<;>rfl) fun _=>
  aO (v:=cw.v (bC,[b])) (cR (x:=decide (a=1)) (by simp only[bd,aB,aK,bt,oB,aD])) (fun _=>by simp only[bd,aB,aU,cG,aw,aA,oB]<;>rfl) fun _=>
  aO (v:=cw.v (bC,[a])) (cR (x:=decide (b=1)) (by simp only[bd,aB,aU,aK,bt,oB,aD])) (fun _=>by simp only[bd,aB,cG,aw,aA,oB]<;>rfl) fun _=>bM (v:=cw.v (fj,[a,b])) (by simp only[bd,aB,aU,cG,aw,aA,qI,oB]<;>rfl)).trans ?_
 simp only[gb,pL,dE]
noncomputable def dh(s a b:Int):cw:=if (decide (s=0) || decide (a=b))=true then (aP,[a]) else if decide (s=1)=true then (aP,[b]) else if (decide (a=0)&&decide (b=1))=true then (aP,[s]) else if (decide (a=1)&&decide (b=0))=true then (bC,[s]) else (ef,[s,a,b])
theorem ph{W n:Nat}{s a b:Int}{H:Hp}:ad P W (n+1) 29 [.int s,.int a,.int b] H=DJ ((dh s a b).v,H):=by
 refine bE (fn:=ik) rfl rfl ⟨[DJ (.int s),DJ (.int a),DJ (.int b)],?_⟩;unfold ik;generalize ad P W n=cl;simp only[mC,mN,dS,dR,D6,Et,Nat.reduceAdd,En,Nat.reduceSub,DY];refine (aO (v:=cw.v (aP,[a])) (Ao (x:=decide (s=0)) (y:=decide (a=b)) (by simp only[bd,aB,aK,bt,oB,aD]) (by simp only[aB,aU,aK,bt,oB,aD])) (fun _=>by simp only[bd,aB,aU,cG,aw,aA,oB]<;>rfl) fun _=>
  aO (v:=cw.v (aP,[b])) (cR (x:=decide (s=1)) (by simp only[bd,aB,aK,bt,oB,aD])) (fun _=>by simp only[bd,aB,aU,cG,aw,aA,oB]<;>rfl) fun _=>
  aO (v:=cw.v (aP,[s])) (xd (x:=decide (a=0)) (y:=decide (b=1)) (by simp only[bd,aB,aU,aK,bt,oB,aD]) (by simp only[bd,aB,aU,aK,bt,oB,aD])) (fun _=>by simp only[bd,aB,cG,aw,aA,oB]<;>rfl) fun _=>
  aO (v:=cw.v (bC,[s])) (xd (x:=decide (a=1)) (y:=decide (b=0)) (by simp only[bd,aB,aU,aK,bt,oB,aD]) (by simp only[bd,aB,aU,aK,bt,oB,aD])) (fun _=>by simp only[bd,aB,cG,aw,aA,oB]<;>rfl) fun _=>bM (v:=cw.v (ef,[s,a,b])) (by simp only[bd,aB,aU,cG,aw,aA,qI,oB]<;>rfl)).trans ?_
 simp only[gb,pL,dh]
noncomputable def cY(k:Nm)(a:Int)(l:List Int):cw:=
 if decide (k=aP)=true then (if (decide (a=0) || decide (a=1))=true then (aP,[1 - a]) else (bC,a::l))
 else if decide (k=bC)=true then (aP,a::l) else if decide (k=eH)=true then (fq,a::l) else if decide (k=kI)=true then (jj,a::l) else (gM,a::l)
theorem qP(v:AV)(vs:List AV):eM (v::vs) 0=DJ v:=rfl
theorem B6(v w:AV)(vs:List AV):eM (v::w::vs) 1=DJ w:=rfl
theorem B7(v w x:AV)(vs:List AV):eM (v::w::x::vs) 2=DJ x:=rfl
theorem B8(v w x y:AV)(vs:List AV):eM (v::w::x::y::vs) 3=DJ y:=rfl
theorem Ap{c:Bool}(e1:f9 cl t m h=DJ (c,h))(e2:c=true->∃ v m' h',cF cl W b m h=DJ (.ret v,m',h')/\r=DJ (.ret v,m',h'))(e3:c=false->cF cl W ss m h=r2):
  cF cl W (.ite t b []::ss) m h=if c=true then r else r2:=by
 cases c with
 | true=>
  refine lb (e2 rfl) fun v m' h' e2 e4=>?_;refine yF (if_pos rfl) ?_;refine yF e4 ?_;refine bM ?_;exact bs e1 e2
 | false=>
  refine yF (if_neg EY) ?_;refine bJ (m1:=m) (h1:=h) ?_ (e3 rfl);exact bs e1 rfl
theorem pj{W n:Nat}{k:Nm}{a:Int}{l:List Int}{H:Hp}:ad P W (n+1) 27 [cw.v (k,a::l)] H=DJ ((cY k a l).v,H):=by
 refine bE (fn:=ij) rfl rfl ⟨[DJ (cw.v (k,a::l)),DJ (.str k),DJ (.tup (.int a::l.map .int))],?_⟩;unfold ij;generalize ad P W n=cl;simp only[mC,mN,dS,dR,D6,Et,Nat.reduceAdd,En,Nat.reduceSub,DY,Ee];refine bJ (m1:=[DJ (cw.v (k,a::l)),DJ (.str k),DJ (.tup (.int a::l.map .int))]) (h1:=H) (by unfold cw.v;simp only[aB,yP,bp,pg,Ai,oB,mC,EF,EZ,D6,Et,En,if_true,Nat.reduceAdd,Nat.reduceLT]) ?_;generalize cw.v (k,a::l)=fv;refine (Ap (c:=decide (k=aP)) (r:=DJ (.ret (if (decide (a=0) || decide (a=1))=true then cw.v (aP,[1 - a]) else cw.v (bC,a::l)),[DJ fv,DJ (.str k),DJ (.tup (.int a::l.map .int))],H))
  (cR (by simp only[bd,aB,aU,aK,bt,oB,bG,aP]<;>rfl)) (fun _=>⟨_,_,_,((aO (v:=cw.v (aP,[1 - a])) (Ao (x:=decide (a=0)) (y:=decide (a=1)) (by simp only[bd,aB,aU,aK,bD,bt,cQ,oB,qP,aD]) (by simp only[bd,aB,aU,aK,bD,bt,cQ,oB,qP,aD])) (fun _=>by simp only[bd,aB,aU,jQ,cG,bD,aw,aA,ec,cQ,oB,oM,qP,bA]<;>rfl) (fun _=>bM (cX (v:=cw.v (bC,a::l)) (h1:=H) (by simp only[bd,aB,aU,cG,aw,aA,oB]<;>rfl)))).trans gb),rfl⟩) fun _=>
  aO (v:=cw.v (aP,a::l)) (cR (x:=decide (k=bC)) (by simp only[bd,aB,aU,aK,bt,oB,bG,bC]<;>rfl)) (fun _=>by simp only[bd,aB,aU,cG,aw,aA,oB]<;>rfl) fun _=>
  aO (v:=cw.v (fq,a::l)) (cR (x:=decide (k=eH)) (by simp only[bd,aB,aU,aK,bt,oB,bG,eH]<;>rfl)) (fun _=>by simp only[bd,aB,aU,cG,aw,aA,oB]<;>rfl) fun _=>
  aO (v:=cw.v (jj,a::l)) (cR (x:=decide (k=kI)) (by simp only[bd,aB,aU,aK,bt,oB,bG,kI]<;>rfl)) (fun _=>by simp only[bd,aB,aU,cG,aw,aA,oB]<;>rfl) fun _=>bM (cX (v:=cw.v (gM,a::l)) (h1:=H) (by simp only[bd,aB,aU,cG,aw,aA,oB]<;>rfl))).trans ?_
 simp only[gb,pL,cY]
noncomputable def db(f:cw):cw:=match f.2 with
 | []=>f
 | a::l=>cY f.1 a l
theorem mq(h:f.2≠[]):ad P W (n+1) 27 [f.v] H=DJ ((db f).v,H):=by
 obtain⟨k,l⟩:=f;cases l with
 | nil=>exact absurd rfl h
 | cons a l=>exact pj
theorem tY(a b:Int)(o:Bool):(dD a b o).2≠[]:=by unfold dD;(repeat' split)<;>exact GR _ _
theorem xf(a b:Int)(o:Bool):(eZ a b o).2≠[]:=by unfold eZ;(repeat' split)<;>exact GR _ _
theorem tZ(a b:Int)(o:Bool):(dE a b o).2≠[]:=by unfold dE;(repeat' split)<;>exact GR _ _
noncomputable def cy(k:Nm)(a b:Int)(o:Bool):cw:=
 if decide (k=eH)=true then dD a b o else if decide (k=fq)=true then db (dD a b o) else if decide (k=kI)=true then eZ a b o
 else if decide (k=jj)=true then db (eZ a b o) else if decide (k=fj)=true then dE a b o else db (dE a b o)
theorem sx{W n:Nat}{k:Nm}{a b:Int}{o:Bool}{H:Hp}:ad P W (n+2) 28 [.str k,.int a,.int b,.bool o] H=DJ ((cy k a b o).v,H):=by
 refine bE (fn:=jn) rfl rfl ⟨[DJ (.str k),DJ (.int a),DJ (.int b),DJ (.bool o)],?_⟩;unfold jn;have h1:=tW (W:=W) (n:=n) (a:=a) (b:=b) (o:=o) (H:=H);have h2:=vV (W:=W) (n:=n) (a:=a) (b:=b) (o:=o) (H:=H);have h3:=tX (W:=W) (n:=n) (a:=a) (b:=b) (o:=o) (H:=H);have t1:=mq (W:=W) (n:=n) (H:=H) (tY a b o);have t2:=mq (W:=W) (n:=n) (H:=H) (xf a b o);have t3:=mq (W:=W) (n:=n) (H:=H) (tZ a b o);generalize ad P W (n+1)=cl at *;simp only[mC,mN,dS,dR,D6,Et,Nat.reduceAdd,En,Nat.reduceSub,DY,Ee];refine (aO (v:=(dD a b o).v) (cR (x:=decide (k=eH)) (by simp only[bd,aB,aK,bt,oB,bG,eH]<;>rfl)) (fun _=>by simp only[aB,aU,ej,aw,aA,oB,h1]) fun _=>
  aO (v:=(db (dD a b o)).v) (cR (x:=decide (k=fq)) (by simp only[bd,aB,aK,bt,oB,bG,fq]<;>rfl)) (fun _=>by simp only[aB,aU,ej,aw,aA,oB,h1,t1]) fun _=>
  aO (v:=(eZ a b o).v) (cR (x:=decide (k=kI)) (by simp only[bd,aB,aK,bt,oB,bG,kI]<;>rfl)) (fun _=>by simp only[aB,aU,ej,aw,aA,oB,h2]) fun _=>
  aO (v:=(db (eZ a b o)).v) (cR (x:=decide (k=jj)) (by simp only[bd,aB,aK,bt,oB,bG,jj]<;>rfl)) (fun _=>by simp only[aB,aU,ej,aw,aA,oB,h2,t2]) fun _=>
  aO (v:=(dE a b o).v) (cR (x:=decide (k=fj)) (by simp only[bd,aB,aK,bt,oB,bG,fj]<;>rfl)) (fun _=>by simp only[aB,aU,ej,aw,aA,oB,h3]) fun _=>bM (cX (v:=(db (dE a b o)).v) (h1:=H) (by simp only[aB,aU,ej,aw,aA,oB,h3,t3]))).trans ?_
 simp only[gb,pL,cy]
section
noncomputable def Ok(r:Option (Fl × aZ × Hp))(Q:Fl->aZ->Hp->Prop):Prop:=∃ f m h,r=DJ (f,m,h)/\Q f m h
theorem Ok.mk{Q:Fl->aZ->Hp->Prop}(e:r=DJ (f,m,h))(q:Q f m h):Ok r Q:=⟨f,m,h,e,q⟩
variable {cl:aR} {W:Nat} {ss:List S} {m:aZ} {h:Hp} {Q:Fl->aZ->Hp->Prop}
theorem aN(q:Q .next m h):Ok (cF cl W [] m h) Q:=⟨_,_,_,rfl,q⟩
theorem di(e:mG cl W s m h=DJ (.next,m1,h1))(k:Ok (cF cl W ss m1 h1) Q):Ok (cF cl W (s::ss) m h) Q:=by
 refine lb k fun f m2 h2 e2 q=>?_;clear k;exact⟨f,m2,h2,bJ e e2,q⟩
theorem Aq(k:Ok (mG cl W s m h) (fun f m h=>(f= .next->Ok (cF cl W ss m h) Q)/\(f≠ .next->Q f m h))):Ok (cF cl W (s::ss) m h) Q:=by
 refine lb k fun f m2 h2 e2 q=>?_;clear k;cases f with
 | next=>exact di e2 (q.1 rfl)
 | cont=>exact ⟨_,_,_,bs e2 rfl,q.2 (by simp)⟩
 | ret v=>exact ⟨_,_,_,bs e2 rfl,q.2 (by simp)⟩
theorem ac(e1:aC cl e m [] h=DJ (v,h1))(e2:bp m t v=DJ m1)(k:Ok (cF cl W ss m1 h1) Q):Ok (cF cl W (.assign t e::ss) m h) Q:=di (cH e1 e2) k
theorem cZ(e1:aC cl e m [] h=DJ (v,h1))(k:Ok (cF cl W ss m h1) Q):Ok (cF cl W (.expr e::ss) m h) Q:=di (jt e1) k
theorem bK(e1:aC cl e m [] h=DJ (v,h1))(q:Q (.ret v) m h1):Ok (cF cl W (.ret e::ss) m h) Q:=⟨_,_,_,bM (cX e1),q⟩
theorem cg{c:Bool}(e1:f9 cl t m h=DJ (c,h1))(k1:c=true->Ok (cF cl W b m h1) (fun f m h=>(f= .next->Ok (cF cl W ss m h) Q)/\(f≠ .next->Q f m h)))
  (k2:c=false->Ok (cF cl W o m h1) (fun f m h=>(f= .next->Ok (cF cl W ss m h) Q)/\(f≠ .next->Q f m h))):Ok (cF cl W (.ite t b o::ss) m h) Q:=by
 refine Aq ?_;cases c with
 | true=>
  refine lb (k1 rfl) fun f m2 h2 e2 q=>?_;exact⟨f,m2,h2,bs e1 e2,q⟩
 | false=>
  refine lb (k2 rfl) fun f m2 h2 e2 q=>?_;exact⟨f,m2,h2,bs e1 e2,q⟩
theorem fH(e1:f9 cl t m h=DJ (false,h1))(k:Ok (cF cl W ss m h1) Q):Ok (cF cl W (.ite t b []::ss) m h) Q:=
 cg e1 (fun e=>absurd e (by decide)) (fun _=>aN ⟨fun _=>k,fun q=>absurd rfl q⟩)
theorem dM{t:rW}{rng:Bool}{it:E}{b:List S}{h1:Hp}{x:AV}{vs:List AV}{gd:Option (Nat × AO)}(St:Nat->aZ->Hp->Prop)(e1:aC cl it m [] h=DJ (x,h1))(e2:bZ h1 rng x=DJ (vs,gd))(s0:St 0 m h1)
  (hg:∀ j m h,j<=vs.length->St j m h->av h gd=true)
  (hs:∀ j v m h,vs[j]? =DJ v->St j m h->∃ m1,bp m t v=DJ m1/\Ok (cF cl W b m1 h) (fun fl m' h'=>(∀ w,fl≠ .ret w)/\St (j+1) m' h'))
  (k:∀ m' h',St vs.length m' h'->Ok (cF cl W ss m' h') Q):Ok (cF cl W (.for_ t rng it b::ss) m h) Q:=by
 refine fL (pK (gd:=gd) (t:=t) (body:=fun m h=>cF cl W b m h) (fun j m h=>St j m h/\j<=vs.length) (vs:=vs) (m:=m) (h:=h1) (fun j m h s=>hg j m h s.2 s.1) (fun j v m h e s=>by
  refine af (hs j v m h e s.1) fun m1 e1 z16=>?_;refine tL z16 fun fl m2 h2 e2 q1 q2=>?_;clear z16;exact⟨m1,e1,fl,m2,h2,e2,q1,q2,(gS.mp e).1⟩) ⟨s0,Gz _⟩) fun m' h' e s=>?_
 exact di ((ld e1 e2).trans e) (k m' h' s.1)
theorem da{n:Nat}(St:Nat->aZ->Hp->Prop)(e1:aC cl it m [] h=DJ (.int n,h1))(hn:n<=1000)(s0:St 0 m h1)
  (hs:∀ j m h,j<n->St j m h->∃ m1,bp m t (.int j)=DJ m1/\Ok (cF cl W b m1 h) (fun fl m' h'=>(∀ w,fl≠ .ret w)/\St (j+1) m' h'))
  (k:∀ m' h',St n m' h'->Ok (cF cl W ss m' h') Q):Ok (cF cl W (.for_ t true it b::ss) m h) Q:=by
 refine fL (g9 (t:=t) (body:=fun m h=>cF cl W b m h) St (k:=n) (m:=m) (h:=h1) (fun j m h hj s=>by
  refine af (hs j m h hj s) fun m1 e1 z16=>?_;refine tL z16 fun fl m2 h2 e2 q1 q2=>?_;clear z16;exact⟨m1,e1,fl,m2,h2,e2,q1,q2⟩) s0) fun m' h' e s=>?_
 exact di ((ld e1 (dK h1 n (aV hn))).trans e) (k m' h' s)
theorem nQ(St:Nat->aZ->Hp->Prop)(Fin:aZ->Hp->Prop)(k0:Nat)(hk:k0<W)(s0:St k0 m h)
  (hs:∀ k m h,St k m h->(∃ h',f9 cl t m h=DJ (false,h')/\Fin m h')\/(∃ h',f9 cl t m h=DJ (true,h')/\Ok (cF cl W b m h') (fun fl m' h2=>(∀ w,fl≠ .ret w)/\∃ k',k'<k/\St k' m' h2)))
  (k:∀ m' h',Fin m' h'->Ok (cF cl W ss m' h') Q):Ok (cF cl W (.while_ t b::ss) m h) Q:=by
 refine fL (qK (test:=f9 cl t) (body:=fun m h=>cF cl W b m h) St Fin k0 W m h hk s0 (fun k m h s=>by
  rcases hs k m h s with a | ⟨h',e,fl,m2,h2,e2,q1,q2⟩
  ·exact Ed a
  ·exact Ew ⟨h',e,fl,m2,h2,e2,q1,q2⟩)) fun m' h' e s=>?_
 exact di (vR.trans e) (k m' h' s)
theorem bQ{Q:AV->Hp->Prop}(hf:P f=DJ fn)(hl:vs.length=fn.np)
  (e:Ok (cF (ad P W n) W fn.body (vs.map DJ++D0 (fn.nl - fn.np) none) H) (fun f _ h=>(∃ v,f= .ret v/\Q v h)\/(f= .next/\Q .none h))):∃ v H',ad P W (n+1) f vs H=DJ (v,H')/\Q v H':=by
 refine lb e ?_;clear e;intro f m h e z5;rcases z5 with⟨v,rfl,q⟩ | ⟨rfl,q⟩
 ·exact⟨v,h,bE hf hl ⟨m,e⟩,q⟩
 ·exact⟨.none,h,nL hf hl ⟨m,e⟩,q⟩
theorem xg{rng:Bool}(f:AV->AV)(e1:aC cl it m c h=DJ (x,h1))(e2:bZ h1 rng x=DJ (vs,gd))(hg:av h1 gd=true)(hl:vs.length<=1000)
  (hf:∀ v∈vs,aC cl e m [DJ v] h1=DJ (f v,h1)):aC cl (.comp 1 (.one 0) rng it (.elt e)) m c h=DJ (.ref h1.length,h1++[.list (vs.map f)]):=by
 obtain⟨⟨c',h',acc⟩,e,s⟩:=kH (hp:=fun (s:aZ × Hp × List AV)=>s.2.1) (gd:=gd) (f:=fun (s:aZ × Hp × List AV) v=>do
   let c' <- bp s.1 (.one 0) v
   m8 cl (.elt e) m c' s.2.1 s.2.2) (fun p s=>s.1.length=1/\s.2.1=h1/\s.2.2=p.map f) vs [] ([none],h1,[]) (fun p s q=>by refine yF q.2.1 ?_;exact hg)
  (fun p v q s ep st=>by
   obtain⟨c,h',acc⟩:=s;refine bY st fun s1 s2 s3=>?_;clear st;simp only at s1 s2 s3;subst s2 s3;obtain⟨y,rfl⟩:∃ y,c=[y]:=by
    cases c with
    | nil=>simp at s1
    | cons y t=>cases t with
     | nil=>exact ⟨y,rfl⟩
     | cons z t=>simp at s1
   have hv:=hf v (by rw[dR]at ep;refine yF ep ?_;simp);have hl2:p.length<=vs.length:=by rw[dR]at ep;refine yF ep ?_;simp
   refine⟨([DJ v],h',(p++[v]).map f),?_,rfl,rfl,rfl⟩;have:(p.map f).length<bo:=by refine yF (DR _) ?_;exact aV (DO hl2 hl)
   simp only[yS,vK,D6,Et,En,Nat.reduceLT,if_true,ED,oB,EF,hv,this,Ez,mC,mN]) ⟨rfl,rfl,rfl⟩
 simp only[dR]at s;refine bY s fun uu z2 z3=>?_;clear s;subst z2;subst z3;exact js e1 e2 e
end
theorem eN{rng:Bool}(l:List α)(g f:α->AV)(e1:aC cl it m c h=DJ (x,h1))(e2:bZ h1 rng x=DJ (l.map g,gd))(hg:av h1 gd=true)(hl:l.length<=1000)
  (hf:∀ a∈l,aC cl e m [DJ (g a)] h1=DJ (f a,h1)):aC cl (.comp 1 (.one 0) rng it (.elt e)) m c h=DJ (.ref h1.length,h1++[.list (l.map f)]):=by
 obtain⟨⟨c',h',acc⟩,e,s⟩:=gK (hp:=fun (s:aZ × Hp × List AV)=>s.2.1) (gd:=gd) (f:=fun (s:aZ × Hp × List AV) v=>do
   let c' <- bp s.1 (.one 0) v
   m8 cl (.elt e) m c' s.2.1 s.2.2) (fun j s=>s.1.length=1/\s.2.1=h1/\s.2.2=(l.take j).map f) (vs:=l.map g) (x:=([none],h1,[])) (fun p s q=>by refine yF q.2.1 ?_;exact hg)
  (fun j v s ep st=>by
   obtain⟨c,h',acc⟩:=s;refine bY st fun s1 s2 s3=>?_;clear st;simp only at s1 s2 s3;subst s2 s3;obtain⟨y,rfl⟩:∃ y,c=[y]:=by
    cases c with
    | nil=>simp at s1
    | cons y t=>cases t with
     | nil=>exact ⟨y,rfl⟩
     | cons z t=>simp at s1
   rw[DX]at ep;cases ha:l[j]? with
   | none=>rw[ha]at ep;simp at ep
   | some a=>
    rw[ha]at ep;simp only[oM,D7]at ep;subst ep;have hv:=hf a (D8 ha);refine⟨([DJ (g a)],h',(l.take (j+1)).map f),?_,rfl,rfl,rfl⟩;have:((l.take j).map f).length<bo:=by (refine yF (DR _) ?_;refine yF EG ?_);exact aV (bu (nat_lit 12726647888622270762433) tt (EE _ _) hl)
    have ht:(l.take (j+1)).map f=(l.take j).map f++[f a]:=by (refine yF E1 ?_;refine yF ha ?_);simp
    refine yF ht ?_;simp only[yS,vK,D6,Et,En,Nat.reduceLT,if_true,ED,oB,EF,hv,this]) ⟨rfl,rfl,rfl⟩
 simp only[DR,Ef]at s;refine bY s fun uu z2 z3=>?_;clear s;subst z2;subst z3;exact js e1 e2 e
theorem gc{rng:Bool}(l:List α)(g:α->AV)(f:α->Bool)(e1:aC cl it m c h=DJ (x,h1))(e2:bZ h1 rng x=DJ (l.map g,gd))(hl:l.length<=1000)
  (hg:∀ T,av (h1++T) gd=true) (hf:∀ a∈l,∀ T,∃ T2 y,aC cl t m [DJ (g a)] (h1++T)=DJ (y,h1++T2)/\truthy (h1++T2) y=DJ (f a)):∃ T,aC cl (.comp 1 (.one 0) rng it (.if_ t (.elt (.loc 0)))) m c h=DJ (.ref (h1++T).length,(h1++T)++[.list ((l.filter f).map g)]):=by
 obtain⟨⟨c',h',acc⟩,e,s⟩:=gK (hp:=fun (s:aZ × Hp × List AV)=>s.2.1) (gd:=gd) (f:=fun (s:aZ × Hp × List AV) v=>do
   let c' <- bp s.1 (.one 0) v
   m8 cl (.if_ t (.elt (.loc 0))) m c' s.2.1 s.2.2) (fun j s=>s.1.length=1/\(∃ T,s.2.1=h1++T)/\s.2.2=((l.take j).filter f).map g) (vs:=l.map g) (x:=([none],h1,[])) (fun p s q=>by refine aq (q.2.1) fun T q=>?_;refine yF q ?_;exact hg T)
  (fun j v s ep st=>by
   obtain⟨c,h',acc⟩:=s;refine bY st fun s1 z2 s3=>?_;clear st;refine aq z2 fun T s2=>?_;clear z2;simp only at s1 s2 s3;subst s2 s3;obtain⟨y,rfl⟩:∃ y,c=[y]:=by
    cases c with
    | nil=>simp at s1
    | cons y t=>cases t with
     | nil=>exact ⟨y,rfl⟩
     | cons z t=>simp at s1
   rw[DX]at ep;cases ha:l[j]? with
   | none=>rw[ha]at ep;simp at ep
   | some a=>
    rw[ha]at ep;simp only[oM,D7]at ep;subst ep;refine fL (hf a (D8 ha) T) fun T2 z hv ht=>?_;have:(((l.take j).filter f).map g).length<bo:=by have:=EI f (l.take j);rw[EG]at this;refine yF (DR _) ?_;exact aV (bS (nat_lit 417026798014373781000113602) tt this (EE _ _) hl)
    have hta:l.take (j+1)=l.take j++[a]:=by (refine DK E1 ?_;refine yF ha ?_);rfl
    refine⟨([DJ (g a)],h1++T2,((l.take (j+1)).filter f).map g),?_,rfl,⟨T2,rfl⟩,rfl⟩;refine yF hta ?_;simp only[yS,CB,vK,D6,Et,En,Nat.reduceLT,if_true,ED,oB,EF,hv,ht];cases hfv:f a with
    | true=>
     simp only[if_true,qG,isEmpty_cons,fE,if_false,EL,oB,ED,this,FN,Gp,hfv,H7,Ez,mC,mN]
    | false=>
     simp only[fE,if_false,FN,Gp,hfv,H7,EC]) ⟨rfl,⟨[],by simp⟩,rfl⟩
 simp only[DR,Ef]at s;refine bY s fun uu z2 z3=>?_;clear s;refine aq z2 fun T z92=>?_;clear z2;subst z92;subst z3;exact⟨T,js e1 e2 e⟩
abbrev aa(l:List Int):List AV:=l.map .int
theorem lg{n:Nat}(l:List Int):(aa l).mapM (res h (n+1))=DJ (l.map D.int):=by
 induction l with
 | nil=>rfl
 | cons a l ih=>
  show ((AV.int a)::aa l).mapM (res h (n+1))=_;refine DK Fg ?_;refine yF ih ?_;rfl
theorem pM{x:Int}{l:List Int}:kf h (.int x) (aa l)=DJ (decide (x∈l)):=by
 unfold kf;refine yF (show dn=23+1 from rfl) ?_;refine yF (lg _) ?_;simp only[Bz,oB,oM];congr 1;rewrite[decide_eq_decide];constructor
 ·intro q;refine af (Es.mp q) fun y hy e=>?_;injection e with e;subst e;exact hy
 ·intro q;exact Es.mpr ⟨x,q,rfl⟩
theorem qQ(l:List Int)(x:Int)(hx:x∈l):(l.map D.int).findIdx? (fun y=>decide (y=D.int x))=DJ (l.idxOf x):=by
 induction l with
 | nil=>simp at hx
 | cons a l ih=>
  refine yF mC ?_;refine yF Kf ?_;refine yF idxOf_cons ?_;by_cases q:a=x
  ·subst q;simp
  ·have q2:¬ (D.int a=D.int x):=fun e=>q (by injection e);have q3:(a == x)=false:=by simpa using q
   rw[ER]at hx;have hx':x∈l:=by
    rcases hx with e | e
    ·exact absurd e.symm q
    ·exact e
   simp only[q2,decide_false,fE,if_false,ih hx',q3,oM,cond_false]
theorem vW{x:Int}{l:List Int}(hx:x∈l):r6 h (.int x) (aa l)=DJ (l.idxOf x):=by
 unfold r6;refine yF (show dn=23+1 from rfl) ?_;refine yF (lg _) ?_;simp only[Bz];exact qQ l x hx
noncomputable def nR(kept:List Int)(row:Nat)(net:Int):Nat:=if net=0\/net=1 then net.toNat else row / 2 ^ (kept.idxOf net) &&& 1
theorem sy{W n row r:Nat}{net:Int}{kept:List Int}(hr:H[r]? =DJ (.list (aa kept)))(hk:kept.length<=1000)(hm:net=0\/net=1\/net∈kept):
  ad P W (n+1) 30 [.int net,.ref r,.int row] H=DJ (.int (nR kept row net:Nat),H):=by
 refine bE (fn:=jo) rfl rfl ⟨[DJ (.int net),DJ (.ref r),DJ (.int row)],?_⟩;unfold jo;generalize ad P W n=cl;simp only[mC,mN,dS,dR,D6,Et,Nat.reduceAdd,En,Nat.reduceSub,DY,Ee];by_cases h01:net=0\/net=1
 ·have hv:(nR kept row net:Int)=net:=by unfold nR;refine yF (if_pos h01) ?_;lia
  refine yF hv ?_;have hc:(decide (net=0) || decide (net=1))=true:=by rcases h01 with rfl | rfl<;>rfl
  refine yF (aO (v:= .int net) (c:=true) (r:=none) ((Ao (x:=decide (net=0)) (y:=decide (net=1)) (by simp only[bd,aB,aK,bt,oB,aD]) (by simp only[bd,aB,aK,bt,oB,aD])).trans (by (refine yF hc ?_;rfl))) (fun _=>rfl) (fun e=>absurd e (by decide))) ?_;rfl
 ·have hin:net∈kept:=by
   rcases hm with q | q | q
   ·exact absurd (Ed q) h01
   ·exact absurd (Ew q) h01
   ·exact q
  have hv:nR kept row net=(row / 2 ^ (kept.idxOf net) &&& 1):=by unfold nR;refine DK (if_neg h01) ?_;rfl
  refine yF hv ?_;have hc:(decide (net=0) || decide (net=1))=false:=by
   rewrite[GA];rewrite[decide_eq_false_iff_not];rewrite[decide_eq_false_iff_not];exact⟨fun q=>h01 (Ed q),fun q=>h01 (Ew q)⟩
  have hi:=vW (h:=H) hin;have hs:=so (a:=row) (b:=kept.idxOf net) (by have:=GT.mpr hin;exact bu (nat_lit 13595986732992363974081) tt this hk);refine DK (aO (v:= .none) (c:=false) (r:=DJ (.ret (.int (row / 2 ^ (kept.idxOf net) &&& 1:Nat)),[DJ (.int net),DJ (.ref r),DJ (.int row)],H)) ((Ao (x:=decide (net=0)) (y:=decide (net=1)) (by simp only[bd,aB,aK,bt,oB,aD]) (by simp only[bd,aB,aK,bt,oB,aD])).trans (by (refine yF hc ?_;rfl))) (fun e=>absurd e (by decide)) (fun _=>bM (cX (by simp only[bd,aB,aU,jQ,mj,aw,aA,ec,fm,oB,oM,if_true,vM,Ds,hr,hi,hs,nN])))) ?_;rfl
noncomputable def cJ:List Bool->Nat
 | []=>0
 | b::l=>b.toNat+2 * cJ l
theorem xh:cJ []=0:=rfl
theorem sz{b:Bool}{l:List Bool}:cJ (b::l)=b.toNat+2 * cJ l:=rfl
theorem pN(l:List Bool)(b:Bool):cJ (l++[b])=cJ l+b.toNat * 2 ^ l.length:=by
 induction l with
 | nil=>simp[xh,sz]
 | cons a l ih=>simp only[dS,sz,ih,D6,H8];refine yF (Ke _ _ _) ?_;refine yB (FO _ _ _) ?_;refine yF (JF (2 ^ l.length) 2) ?_;refine yB (I6 _ _ _) ?_;refine yB (I6 _ _ _) ?_;refine yF (JF b.toNat 2) ?_;rfl
theorem lk(l:List Bool):cJ l<2 ^ l.length:=by
 induction l with
 | nil=>simp[xh,sz]
 | cons a l ih=>simp only[sz,D6,H8];cases a<;>simp<;>lia
noncomputable def nz(l:List Nat):List Bool:=l.map fun x=>decide (x≠0)
theorem fN{H:Hp}{r:Nat}{o:AO}(T:Hp)(h:H[r]? =DJ o):(H++T)[r]? =DJ o:=ai.push H T r o h
theorem qR(hr:H[r]? =DJ (.list (az bits)))(hl:bits.length<=1000):
  ad P W (n+1) 13 [.ref r] H=DJ (.int (cJ (nz bits):Nat),H):=by
 obtain⟨v,H',e,rfl,rfl⟩:∃ v H',ad P W (n+1) 13 [.ref r] H=DJ (v,H')/\v= .int (cJ (nz bits):Nat)/\H'=H:=by
  let Q0:AV->Hp->Prop:=fun v H'=>v= .int (cJ (nz bits):Nat)/\H'=H
  refine bQ (Q:=Q0) (fn:=iR) rfl rfl ?_;unfold iR;generalize ad P W n=cl;simp only[mC,mN,dS,dR,D6,Et,Nat.reduceAdd,En,Nat.reduceSub,DY,Ee];refine ac (m1:=[DJ (.ref r),DJ (.int 0),none]) (by simp only[bd]<;>rfl) rfl ?_;refine da (n:=bits.length) (h1:=H) (fun j m h=>∃ x,m=[DJ (.ref r),DJ (.int (cJ (nz (bits.take j)):Nat)),x]/\h=H) (by simp only[aB,cO,aw,aA,vO,fm,oB,hr,bT]) hl ⟨_,rfl,rfl⟩ ?_ ?_
  ·intro j m h hj z5;refine af z5 fun x z161 z162=>?_;clear z5;subst z161;subst z162;have hg:=mo hj;have ht:bits.take (j+1)=bits.take j++[bits.getD j 0]:=by
    refine DK E1 ?_;refine yF (gE hj) ?_;refine yF Ei ?_;refine yF (gE hj) ?_;rfl
   have hlt:(nz (bits.take j)).length=j:=by unfold nz;refine yF (DR _) ?_;refine DK EG ?_;exact Ij (EK (by assumption))
   refine⟨_,by simp only[bp,EF,EZ,D6,Et,En,if_true,Nat.reduceAdd,Nat.reduceLT]<;>rfl,?_⟩;generalize bits.getD j 0=b at *;refine cg (c:=decide (b≠0)) (h1:=h) (by simp only[aB,aU,bD,cW,Ah,kG,oB,hr,iF,hg];congr 2;rewrite[decide_eq_decide];exact JG) ?_ ?_
   ·intro q;refine di (m1:=[DJ (.ref r),DJ (.int (cJ (nz (bits.take (j+1))):Nat)),DJ (.int j)]) (h1:=h) ?_ (aN ⟨fun _=>aN ⟨by simp,_,rfl,rfl⟩,fun e=>absurd rfl e⟩);have e1:=uQ (b:=j) (bu (nat_lit 13595986732992363974081) tt hj hl);simp only[bd,aB,aU,jQ,ec,vJ,yR,bp,oB,oM,EF,EZ,D6,Et,En,if_true,Nat.reduceAdd,Nat.reduceLT,e1,zQ];refine yF ht ?_;unfold nz at *;refine yF Ez ?_;refine yF mC ?_;refine yF mN ?_;refine yF (pN _ _) ?_;refine yF hlt ?_;refine yF q ?_;simp
   ·intro q;refine aN ⟨fun _=>aN ⟨by simp,DJ (.int j),?_,rfl⟩,fun e=>absurd rfl e⟩;refine yF ht ?_;unfold nz at *;refine yF Ez ?_;refine yF mC ?_;refine yF mN ?_;refine yF (pN _ _) ?_;refine yF hlt ?_;refine yF q ?_;simp
  ·intro m h z3;refine af z3 fun x z101 z102=>?_;clear z3;subst z101;subst z102;refine bK (by simp only[aB,aU]<;>rfl) (Ed ⟨_,rfl,?_,rfl⟩);refine yF Ef ?_;rfl
 exact e
noncomputable def cz(ins kept:List Int)(row:Nat):List Nat:=ins.map (nR kept row)
noncomputable def kg(t:Nat)(ins kept:List Int)(row:Nat):Bool:=decide ((t / 2 ^ cJ (nz (cz ins kept row)) &&& 1)≠0)
noncomputable def hO(t:Nat)(ins kept:List Int):Nat->Nat
 | 0=>0
 | n+1=>hO t ins kept n+(kg t ins kept n).toNat * 2 ^ n
theorem qS{t:Nat}{ins kept:List Int}{n:Nat}:hO t ins kept (n+1)=hO t ins kept n+(kg t ins kept n).toNat * 2 ^ n:=rfl
theorem ll(t:Nat)(ins kept:List Int)(n:Nat):hO t ins kept n<2 ^ n:=by
 induction n with
 | zero=>exact Nat.zero_lt_one
 | succ n ih=>simp only[qS,H8];cases kg t ins kept n<;>simp<;>first | exact Bo ih | exact Bp ih
theorem m9(h:k<=3):2 ^ k<=8:=by
 have:=B3 h;rcases this with rfl | rfl | rfl | rfl<;>decide
theorem qT{W n r t:Nat}{ins kept:List Int}{H:Hp}(hr:H[r]? =DJ (.list (aa kept)))(hk:kept.length<=3)(hi:ins.length<=3)(hm:∀ x∈ins,x=0\/x=1\/x∈kept):
  ∃ T,ad P W (n+2) 31 [.int t,.tup (aa ins),.ref r] H=DJ (.int (hO t ins kept (2 ^ kept.length):Nat),H++T):=by
 obtain⟨v,H',e,rfl,T,rfl⟩:∃ v H',ad P W (n+2) 31 [.int t,.tup (aa ins),.ref r] H=DJ (v,H')/\v= .int (hO t ins kept (2 ^ kept.length):Nat)/\∃ T,H'=H++T:=by
  let Q0:AV->Hp->Prop:=fun v H'=>v= .int (hO t ins kept (2 ^ kept.length):Nat)/\∃ T,H'=H++T
  refine bQ (Q:=Q0) (fn:=iS) rfl rfl ?_;unfold iS;have tb:∀ T x (row:Nat),x∈ins->ad P W (n+1) 30 [.int x,.ref r,.int row] (H++T)=DJ (.int (nR kept row x:Nat),H++T):=fun T x row hx=>sy (fN T hr) (DO hk (by decide)) (hm x hx);have rn:∀ (T:Hp) (bits:List Nat),bits.length<=1000->ad P W (n+1) 13 [.ref (H++T).length] ((H++T)++[.list (az bits)])=DJ (.int (cJ (nz bits):Nat),(H++T)++[.list (az bits)]):=fun T bits hb=>qR (bO _ _) hb;generalize ad P W (n+1)=cl at *;have hk8:=m9 hk;have e1:=uQ (b:=kept.length) (Ek hk (by decide));simp only[mC,mN,dS,dR,D6,Et,Nat.reduceAdd,En,Nat.reduceSub,DY,Ee];refine ac (m1:=[DJ (.int t),DJ (.tup (aa ins)),DJ (.ref r),DJ (.int 0),none,none]) (h1:=H) (by simp only[bd]<;>rfl) rfl ?_;refine da (n:=2 ^ kept.length) (h1:=H) (fun j m h=>∃ x y,m=[DJ (.int t),DJ (.tup (aa ins)),DJ (.ref r),DJ (.int (hO t ins kept j:Nat)),x,y]/\∃ T,h=H++T) (by simp only[bd,aB,aU,jQ,cO,aw,aA,ec,vO,fm,oB,oM,hr,DR,e1]) (DO hk8 (by decide)) ⟨_,_,rfl,[],by simp⟩ ?_ ?_
  ·intro j m h hj z5;refine fL z5 fun x y z162 z175=>?_;clear z5;subst z162;refine aq z175 fun T z231=>?_;clear z175;subst z231;refine⟨[DJ (.int t),DJ (.tup (aa ins)),DJ (.ref r),DJ (.int (hO t ins kept j:Nat)),DJ (.int j),y],by simp only[bp,EF,EZ,D6,Et,En,if_true,Nat.reduceAdd,Nat.reduceLT]<;>rfl,?_⟩;have hc:=eN (cl:=cl) (rng:=false) (it:= .loc 1) (e:= .call 30 [(.loc 0),(.free 2),(.free 4)]) (m:=[DJ (.int t),DJ (.tup (aa ins)),DJ (.ref r),DJ (.int (hO t ins kept j:Nat)),DJ (.int j),y]) (c:=[]) (h:=H++T) (h1:=H++T) ins AV.int (fun a=> .int (nR kept j a:Nat)) (x:= .tup (aa ins)) (gd:=none) rfl rfl rfl (DO hi (by decide)) (fun a ha=>by
    have:=tb T a j ha;simp only[qG,zO,zP,ej,aw,aA,oB,this])
   have hv:ins.map (fun a=>AV.int (nR kept j a:Nat))=az (cz ins kept j):=by unfold az cz;refine yF map_map ?_;rfl
   rw[hv]at hc;have hrn:=rn T (cz ins kept j) (by unfold cz;refine yF (DR _) ?_;exact DO hi (by decide));have hb8:cJ (nz (cz ins kept j))<8:=by
    have:=lk (nz (cz ins kept j));have h2:(nz (cz ins kept j)).length<=3:=by unfold nz cz;refine yF (DR _) ?_;refine yF (DR _) ?_;exact hi
    have:=m9 h2;exact Ea ‹_› this
   refine ac (m1:=[DJ (.int t),DJ (.tup (aa ins)),DJ (.ref r),DJ (.int (hO t ins kept j:Nat)),DJ (.int j),DJ (.ref (H++T).length)]) hc rfl ?_;have e2:=so (a:=t) (b:=cJ (nz (cz ins kept j))) (Ea hb8 (by decide));refine cg (c:=kg t ins kept j) (h1:=(H++T)++[.list (az (cz ins kept j))]) (by
    simp only[bd,aB,aU,jQ,ej,aw,aA,cW,Ah,ec,oB,oM,hrn,e2,nN];unfold kg;congr 2;rewrite[decide_eq_decide];exact JG) ?_ ?_
   ·intro q;have e3:=uQ (b:=j) (bu (nat_lit 13277330793937854913) tt hj hk8);refine di (m1:=[DJ (.int t),DJ (.tup (aa ins)),DJ (.ref r),DJ (.int (hO t ins kept (j+1):Nat)),DJ (.int j),DJ (.ref (H++T).length)]) (h1:=(H++T)++[.list (az (cz ins kept j))]) (by
     simp only[bd,aB,aU,jQ,ec,vJ,yR,bp,oB,oM,EF,EZ,D6,Et,En,if_true,Nat.reduceAdd,Nat.reduceLT,e3,zQ,qS,q,Bool.toNat_true,MN]) (aN ⟨fun _=>aN ⟨by simp,_,_,rfl,T++[.list (az (cz ins kept j))],by (refine DK (D1 _ _ _) ?_;rfl)⟩,fun e=>absurd rfl e⟩)
   ·intro q;refine aN ⟨fun _=>aN ⟨by simp,DJ (.int j),DJ (.ref (H++T).length),?_,T++[.list (az (cz ins kept j))],by (refine DK (D1 _ _ _) ?_;rfl)⟩,fun e=>absurd rfl e⟩;simp only[qS,q,Bool.toNat_false,JC,JH]
  ·intro m h z3;refine fL z3 fun x y z102 z115=>?_;clear z3;subst z102;refine aq z115 fun T z171=>?_;clear z115;subst z171;exact bK (by simp only[aB,aU]<;>rfl) (Ed ⟨_,rfl,rfl,T,rfl⟩)
 exact⟨T,e⟩
structure F3 where
 kind:Nm
 ins:List Int
 param:AV
noncomputable def F3.v(f:F3):AV:= .tup [.str f.kind,.tup (aa f.ins),f.param]
noncomputable def bw(acc:List Int)(x:Int):List Int:=if x>1/\¬ x∈acc then acc++[x] else acc
theorem mH(acc:List Int)(x:Int):bw acc x=if x>1/\¬ x∈acc then acc++[x] else acc:=rfl
noncomputable def aS(ins:List Int):List Int:=ins.foldl bw []
theorem qU(acc:List Int)(x:Int):(bw acc x).length<=acc.length+1:=by unfold bw;split<;>simp
theorem lm(ins:List Int):∀ acc,(ins.foldl bw acc).length<=acc.length+ins.length:=by
 induction ins with
 | nil=>intro acc;simp
 | cons a l ih=>intro acc;have:=ih (bw acc a);have:=qU acc a;simp only[F4,D6];exact kt (nat_lit 12699215654307865742558148643) tt ‹_› this
theorem gO(ins:List Int):(aS ins).length<=ins.length:=by have:=lm ins [];simpa[aS] using this
theorem qV(acc:List Int)(x y:Int):y∈bw acc x↔y∈acc\/(y=x/\x>1):=by
 unfold bw;split
 ·rename_i h;rewrite[DZ];rewrite[DT];constructor
  ·rintro (a | a)
   ·exact Ed a
   ·exact Ew ⟨a,h.1⟩
  ·rintro (a | a)
   ·exact Ed a
   ·exact Ew a.1
 ·rename_i h;constructor
  ·exact Ed
  ·rintro (a | ⟨rfl,a⟩)
   ·exact a
   ·by_cases q:y∈acc
    ·exact q
    ·exact absurd ⟨a,q⟩ h
theorem qW(ins:List Int):∀ acc y,y∈ins.foldl bw acc↔y∈acc\/(y∈ins/\y>1):=by
 induction ins with
 | nil=>intro acc y;simp
 | cons a l ih=>
  intro acc y;dsimp only[F4];rewrite[ih];rewrite[qV];rewrite[ER];constructor
  ·rintro ((b | ⟨rfl,c⟩) | ⟨b,c⟩)
   ·exact Ed b
   ·exact Ew ⟨Ed rfl,c⟩
   ·exact Ew ⟨Ew b,c⟩
  ·rintro (b | ⟨rfl | b,c⟩)
   ·exact Ed (Ed b)
   ·exact Ed (Ew ⟨rfl,c⟩)
   ·exact Ew ⟨b,c⟩
theorem kJ(ins:List Int)(y:Int):y∈aS ins↔y∈ins/\y>1:=by
 unfold aS;rewrite[qW];simp
theorem nS(acc:List Int)(x:Int)(h:acc.Nodup):(bw acc x).Nodup:=by
 unfold bw;split
 ·rename_i q;rewrite[Fa];refine⟨h,by simp,?_⟩;intro a ha b hb e;rw[DT]at hb;subst e hb;exact q.2 ha
 ·exact h
theorem nT(ins:List Int):∀ acc,acc.Nodup->(ins.foldl bw acc).Nodup:=by
 induction ins with
 | nil=>intro acc h;exact h
 | cons a l ih=>intro acc h;exact ih _ (nS acc a h)
theorem qX(ins:List Int):(aS ins).Nodup:=nT ins [] Ip
noncomputable def fb(t:Nat)(ins:List Int):Nat:=hO t ins (aS ins) (2 ^ (aS ins).length)
noncomputable def b0(t:Nat)(ins:List Int):List Nat:=cI (fb t ins) (aS ins).length
noncomputable def fO(t:Nat)(ins:List Int):Nat:=shrinkS (fb t ins) (aS ins).length (2 ^ (b0 t ins).length)
noncomputable def bP(t:Nat)(ins:List Int):List Int:=(b0 t ins).map fun p=>(aS ins).getD p 0
noncomputable def aE(t:Nat)(ins:List Int):F3:=
 if decide ((bP t ins).length=0)=true then ⟨aP,[((fO t ins &&& 1:Nat):Int)],.none⟩
 else if decide ((bP t ins).length=1)=true then ⟨if fO t ins=2 then aP else bC,bP t ins,.none⟩
 else ⟨df,bP t ins,.int (fO t ins:Nat)⟩
theorem vX{t:Nat}{ins:List Int}(h:ins.length<=3):fb t ins<256:=by
 have h1:=ll t ins (aS ins) (2 ^ (aS ins).length);have h2:=gO ins;have h3:2 ^ (aS ins).length<=8:=m9 (DO h2 h);exact Ea h1 (GB (n:=2) (by decide) h3)
theorem xj{c:Prop}[Decidable c]{x y:F3}:(if c then x.v else y.v)=(if c then x else y).v:=by split<;>rfl
theorem ln{W n t:Nat}{ins:List Int}{H:Hp}(hi:ins.length<=3)(h0:∀ x∈ins,0<=x):
  ∃ T,ad P W (n+7) 32 [.int t,.tup (aa ins)] H=DJ ((aE t ins).v,H++T):=by
 obtain⟨v,H',e,rfl,T,rfl⟩:∃ v H',ad P W (n+7) 32 [.int t,.tup (aa ins)] H=DJ (v,H')/\v=(aE t ins).v/\∃ T,H'=H++T:=by
  let Q0:AV->Hp->Prop:=fun v H'=>v=(aE t ins).v/\∃ T,H'=H++T
  refine bQ (Q:=Q0) (fn:=iT) rfl rfl ?_;unfold iT;have hlen:=gO ins;have hk3:(aS ins).length<=3:=DO hlen hi;have hto:=qT (W:=W) (n:=n+4) (r:=H.length) (t:=t) (ins:=ins) (kept:=aS ins) (H:=H++[.list (aa (aS ins))]) (bO _ _) hk3 hi (fun x hx=>by
   have:=h0 x hx;have:=kJ ins x;by_cases q:x>1
   ·exact Ew (Ew (this.mpr ⟨hx,q⟩))
   ·lia)
  refine aq hto ?_;clear hto;intro T hto;have hsh:=xc (W:=W) (n:=n) (t:=fb t ins) (k:=(aS ins).length) (H:=(H++[.list (aa (aS ins))])++T) hk3 (vX hi);change ad P W (n+6) 31 _ _=DJ (.int (fb t ins:Nat),_) at hto;change ad P W (n+6) 20 _ _=DJ (.tup [.int (fO t ins:Nat),.ref ((H++[AO.list (aa (aS ins))])++T).length],((H++[AO.list (aa (aS ins))])++T)++[AO.list (az (b0 t ins))]) at hsh;generalize ad P W (n+6)=cl at *;simp only[mC,mN,dS,dR,D6,Et,Nat.reduceAdd,En,Nat.reduceSub,DY,Ee];refine ac (m1:=[DJ (.int t),DJ (.tup (aa ins)),DJ (.ref H.length),none,none,none,none]) (h1:=H++[.list []]) (by simp only[pf,aw,oB]<;>rfl) rfl ?_;refine dM (vs:=aa ins) (gd:=none) (x:= .tup (aa ins)) (h1:=H++[.list []]) (fun j m h=>∃ x,m=[DJ (.int t),DJ (.tup (aa ins)),DJ (.ref H.length),x,none,none,none]/\h=H++[.list (aa ((ins.take j).foldl bw []))]) rfl rfl ⟨_,rfl,rfl⟩ (fun _ _ _ _ _=>rfl) ?_ ?_
  ·intro j v m h hj z6;refine af z6 fun x z191 z192=>?_;clear z6;subst z191;subst z192;unfold aa at hj;rw[DX]at hj;cases ha:ins[j]? with
   | none=>rw[ha]at hj;simp at hj
   | some a=>
    rw[ha]at hj;simp only[oM,D7]at hj;subst hj;refine⟨_,by simp only[bp,EF,EZ,D6,Et,En,if_true,Nat.reduceAdd,Nat.reduceLT]<;>rfl,?_⟩;have ht:ins.take (j+1)=ins.take j++[a]:=by (refine DK E1 ?_;refine yF ha ?_);rfl
    have hc:bc (H++[.list (aa ((ins.take j).foldl bw []))]) (.int a) (.ref H.length)=DJ (decide (a∈(ins.take j).foldl bw [])):=by
     unfold bc;simp only[bO];exact pM
    have hjl:j<ins.length:=(gS.mp ha).1;have hfl:=lm (ins.take j) [];rw[EG,Et]at hfl;have hl:(aa ((ins.take j).foldl bw [])).length<bo:=by unfold aa;refine yF (DR _) ?_;exact aV (bS (nat_lit 417026798022294603417603522) tt hfl (EE _ _) hi)
    refine cg (c:=decide (a>1)&& !decide (a∈(ins.take j).foldl bw [])) (xd rfl (by simp only[aB,aU,aK,sf,oB,oM,hc])) ?_ ?_
    ·intro q;have hs:bw ((ins.take j).foldl bw []) a=(ins.take j).foldl bw []++[a]:=by
      dsimp only[mH];rewrite[if_pos];rfl;simpa using q
     refine cZ (v:= .none) (h1:=H++[.list (aa ((ins.take (j+1)).foldl bw []))]) ?_ (aN ⟨fun _=>aN ⟨by simp,_,rfl,rfl⟩,fun e=>absurd rfl e⟩);simp only[aB,aU,mj,aw,aA,fm,oB,if_true,vM,Ak,bO,hl,sr];refine yF ht ?_;refine yF Ga ?_;dsimp only[F4];dsimp only[Hh];refine yF hs ?_;unfold aa;refine yF Ez ?_;refine yF mC ?_;refine yF mN ?_;rfl
    ·intro q;have hs:bw ((ins.take j).foldl bw []) a=(ins.take j).foldl bw []:=by
      dsimp only[mH];rewrite[if_neg];rfl;simpa using q
     refine aN ⟨fun _=>aN ⟨by simp,_,rfl,?_⟩,fun e=>absurd rfl e⟩;refine yF ht ?_;refine yF Ga ?_;dsimp only[F4];dsimp only[Hh];refine yF hs ?_;rfl
  ·intro m h z3;refine af z3 fun x z101 z102=>?_;clear z3;subst z101;subst z102;unfold aa;refine yF (DR _) ?_;refine yF Ef ?_;change Ok (cF cl W _ _ (H++[.list (aa (aS ins))])) _;have hkl:(H++[AO.list (aa (aS ins))])[H.length]? =DJ (.list (aa (aS ins))):=bO _ _;have hkl2:=fN T hkl;have hkl3:=fN [.list (az (b0 t ins))] hkl2;have hpl:(((H++[AO.list (aa (aS ins))])++T)++[AO.list (az (b0 t ins))])[((H++[AO.list (aa (aS ins))])++T).length]? =DJ (.list (az (b0 t ins))):=bO _ _;have hil:(aa (aS ins)).length=(aS ins).length:=DR _;generalize hX:(H++[AO.list (aa (aS ins))])=X at *;generalize hY:X++T=Y at *;have hts:=b0 t ins;have hb:∀ p∈b0 t ins,p<(aS ins).length:=fun p hp=>gL hp;have hlp:(b0 t ins).length<=(aS ins).length:=qN _ _;refine ac (v:= .tup [.int (fO t ins:Nat),.ref Y.length]) (h1:=Y++[.list (az (b0 t ins))]) (m1:=[DJ (.int t),DJ (.tup (aa ins)),DJ (.ref H.length),x,DJ (.int (fO t ins:Nat)),DJ (.ref Y.length),none])
    (aJ (vs:=[.int (fb t ins:Nat),.int ((aS ins).length:Nat)]) (h1:=Y) (by
     rewrite[aA];refine yF (aJ (vs:=[.int t,.tup (aa ins),.ref H.length]) (h1:=X) rfl hto) ?_;simp only[aB,aU,cO,aw,aA,vO,fm,oB,hkl2,hil]) hsh) rfl ?_
   have hc:=eN (cl:=cl) (rng:=false) (it:= .loc 5) (e:= .sub (.free 2) (.loc 0)) (m:=[DJ (.int t),DJ (.tup (aa ins)),DJ (.ref H.length),x,DJ (.int (fO t ins:Nat)),DJ (.ref Y.length),none]) (c:=[]) (h:=Y++[.list (az (b0 t ins))]) (h1:=Y++[.list (az (b0 t ins))]) (b0 t ins) (fun (p:Nat)=>AV.int p) (fun p=> .int ((aS ins).getD p 0)) (x:= .ref Y.length) rfl (aF _ _ _ hpl) (by unfold av;simp[hpl,az]) (bu (nat_lit 12428367078732680641) tt hlp hk3) (fun a ha=>by
    have h1:=hb a ha;have h2:(aa (aS ins))[a]? =DJ (.int ((aS ins).getD a 0)):=by
     unfold aa;refine DK DX ?_;refine yF Ei ?_;refine yF (gE h1) ?_;rfl
    simp only[qG,zO,zP,bD,kG,oB,hkl3,iF,h2])
   have hv:(b0 t ins).map (fun p=>AV.int ((aS ins).getD p 0))=aa (bP t ins):=by unfold aa bP;refine yF map_map ?_;rfl
   rw[hv]at hc;have hnl:(aa (bP t ins)).length=(bP t ins).length:=DR _;refine ac (v:= .tup (aa (bP t ins))) (h1:=(Y++[.list (az (b0 t ins))])++[.list (aa (bP t ins))]) (m1:=[DJ (.int t),DJ (.tup (aa ins)),DJ (.ref H.length),x,DJ (.int (fO t ins:Nat)),DJ (.ref Y.length),DJ (.tup (aa (bP t ins)))]) (by
    simp only[cO,aw,aA,hc,ED,oB,F7,Bt,fm,bO]) rfl ?_
   refine Ok.mk (f:= .ret (aE t ins).v) (m:=[DJ (.int t),DJ (.tup (aa ins)),DJ (.ref H.length),x,DJ (.int (fO t ins:Nat)),DJ (.ref Y.length),DJ (.tup (aa (bP t ins)))]) (h:=(Y++[.list (az (b0 t ins))])++[.list (aa (bP t ins))]) ?_ (Ed ⟨_,rfl,rfl,[.list (aa (aS ins))]++T++[.list (az (b0 t ins))]++[.list (aa (bP t ins))],by (refine yB hY ?_;refine yB hX ?_);simp⟩);generalize (Y++[.list (az (b0 t ins))])++[.list (aa (bP t ins))]=Z;refine (aO (v:=F3.v ⟨aP,[((fO t ins &&& 1:Nat):Int)],.none⟩) (cR (x:=decide ((bP t ins).length=0)) (by simp only[bd,aB,aU,aK,cO,aw,aA,bt,wX,oB,hnl,aD];congr 3;rewrite[decide_eq_decide];exact Hq)) (fun _=>by simp only[bd,aB,aU,jQ,cG,aw,aA,ec,oB,oM,nN]<;>rfl) fun _=>
    aO (v:=F3.v ⟨if fO t ins=2 then aP else bC,bP t ins,.none⟩) (cR (x:=decide ((bP t ins).length=1)) (by simp only[bd,aB,aU,aK,cO,aw,aA,bt,wX,oB,hnl,aD];congr 3;rewrite[decide_eq_decide];exact FP)) (fun _=>by
     have e2:decide (((fO t ins:Nat):Int)=2)=decide (fO t ins=2):=by rewrite[decide_eq_decide];exact FP
     simp only[bd,aB,aU,aK,r9,cG,aw,aA,cq,bt,oB,aD,e2];by_cases q:fO t ins=2
     ·simp only[q,decide_true,if_true];rfl
     ·simp only[q,decide_false,fE,if_false];rfl) fun _=>bM (cX (v:=F3.v ⟨df,bP t ins,.int (fO t ins:Nat)⟩) (h1:=Z) (by simp only[bd,aB,aU,cG,aw,aA,oB]<;>rfl))).trans ?_
   simp only[gb,xj,aE]
 exact⟨T,e⟩
noncomputable def aY(H:Hp)(r:Nat)(f:Int->Option Int)(n:Nat):Prop:=∃ es,H[r]? =DJ (.dict es)/\es.length<=n/\∀ x,br es (.int x)=(f x).map .int
theorem aY.keep{r:Nat}{f:Int->Option Int}{n:Nat}(k:ai H H')(d:aY H r f n):aY H' r f n:=by
 refine aM d fun es a b c=>?_;clear d;exact⟨es,k _ _ a,b,c⟩
theorem aY.get{r:Nat}{f:Int->Option Int}{n:Nat}(d:aY H r f n)(x y:Int):wV H .get (.ref r) [.int x,.int y]=DJ (.int ((f x).getD y),H):=by
 refine aM d fun es a b c=>?_;clear d;simp only[B5,wR,a,ml,if_true,c];cases f x<;>rfl
theorem aY.ok{r:Nat}{f:Int->Option Int}{n:Nat}(d:aY H r f n):r7 H .get (.ref r)=true:=by
 refine aM d fun es a b c=>?_;clear d;simp only[vM,a]
theorem aY.has{r:Nat}{f:Int->Option Int}{n:Nat}(d:aY H r f n)(x:Int):bc H (.int x) (.ref r)=DJ (f x).isSome:=by
 refine aM d fun es a b c=>?_;clear d;simp only[vL,a,ml,if_true,c,Option.isSome_map]
theorem aY.sub{r:Nat}{f:Int->Option Int}{n:Nat}(d:aY H r f n){x y:Int}(h:f x=DJ y):fS H (.ref r) (.int x)=DJ (.int y):=by
 refine aM d fun es a b c=>?_;clear d;simp only[kG,a,ml,if_true,c,h,oM]
theorem eI(es:List (AV × AV))(k k' v:AV):br (dz es k v) k'=if k=k' then DJ v else br es k':=by
 induction es with
 | nil=>exact dC
 | cons p r ih=>
  obtain⟨a,x⟩:=p;rewrite[ke];by_cases h:a=k
  ·refine yF (if_pos h) ?_;subst h;by_cases h2:a=k'
   ·simp[dC,h2]
   ·simp[dC,h2]
  ·refine yF (if_neg h) ?_;rewrite[dC,dC];by_cases h2:a=k'
   ·have:¬ k=k':=fun e=>h (h2.trans e.symm);simp[h2,this]
   ·simp only[h2,if_false,ih]
theorem ju(es:List (AV × AV))(k v:AV):(dz es k v).length<=es.length+1:=by
 induction es with
 | nil=>exact DV _
 | cons p r ih=>
  obtain⟨a,x⟩:=p;rewrite[ke];split<;>simp[ih]
noncomputable def upd(f:Int->Option Int)(x y:Int):Int->Option Int:=fun z=>if x=z then DJ y else f z
theorem bH(H:Hp)(r:Nat)(o:AO)(h:r<H.length):(H.set r o)[r]? =DJ o:=by
 refine DK (Fu h) ?_;rfl
theorem aY.put{H:Hp}{r:Nat}{f:Int->Option Int}{n:Nat}(d:aY H r f n)(x y:Int)(hn:n<1000):∃ o,dq H (.ref r) (.int x) (.int y)=DJ (H.set r o)/\aY (H.set r o) r (upd f x y) (n+1):=by
 refine aM d fun es a b c=>?_;clear d;refine⟨.dict (dz es (.int x) (.int y)),?_,dz es (.int x) (.int y),bH _ _ _ (gS.mp a).1,by have:=ju es (.int x) (.int y);exact bS (nat_lit 12121169318278674262050) tt this b,?_⟩
 ·simp only[sh,a,ml];refine DK (if_pos ⟨trivial,Ek b (aV (EK hn))⟩) ?_;rfl
 ·intro z;rewrite[eI];unfold upd;by_cases q:x=z
  ·subst q;simp
  ·have:¬ AV.int x=AV.int z:=fun e=>q (by injection e);simp only[q,this,if_false,c]
theorem aY.other{r r2:Nat}{f:Int->Option Int}{n:Nat}(d:aY H r f n)(h:r2≠r):aY (H.set r2 o) r f n:=by
 refine aM d fun es a b c=>?_;clear d;exact⟨es,by refine yF (gN h) ?_;exact a,b,c⟩
theorem aY.new:aY (H++[.dict []]) H.length (fun _=>none) 0:=⟨[],bO _ _,DV _,fun _=>rfl⟩
noncomputable def uS(inv:Int->Option Int)(a b:Int):Bool:=decide ((inv a).getD (-1)=b) || decide ((inv b).getD (-1)=a)
theorem nU{W n r N:Nat}{a b:Int}{inv:Int->Option Int}(hr:aY H r inv N):ad P W (n+1) 33 [.ref r,.int a,.int b] H=DJ (.bool (uS inv a b),H):=by
 refine bE (fn:=gF) rfl rfl ⟨[DJ (.ref r),DJ (.int a),DJ (.int b)],?_⟩;unfold gF;generalize ad P W n=cl;simp only[mC,mN,dS,dR,D6,Et,Nat.reduceAdd,En,Nat.reduceSub,DY,Ee];have g1:=hr.get a (-1);have g2:=hr.get b (-1);have ok:=hr.ok;refine bM (cX ?_);unfold uS;simp only[aB,aU,tN,aK,mj,aw,aA,cq,bt,oB,if_true,w6,wY,wZ,ok,g1,g2,aD];cases decide ((inv a).getD (-1)=b)<;>simp[truthy]
noncomputable def eJ(k:Nm)(p:AV):Nat:=match p with
 | .int t=>t.toNat
 | .tup [_,.int t]=>t.toNat
 | _=>if k=aP then 2 else if k=bC then 1 else if k=eH then 8 else if k=kI then 14 else if k=fj then 6 else if k=fq then 7 else if k=jj then 1 else if k=gM then 9 else if k=ef then 228 else 0
noncomputable def dj(ins:List Int)(p:AV):F3:=if decide ((aE (eJ bU p) ins).kind=df)=true then ⟨bU,ins,p⟩ else ⟨(aE (eJ bU p) ins).kind,(aE (eJ bU p) ins).ins,.none⟩
theorem nV{W n t:Nat}{nm:Nm}{ins:List Int}{H:Hp}(hi:ins.length<=3)(h0:∀ x∈ins,0<=x):
  ∃ T,ad P W (n+8) 34 [.tup (aa ins),.tup [.str nm,.int t]] H=DJ ((dj ins (.tup [.str nm,.int t])).v,H++T):=by
 refine aq (ln (W:=W) (n:=n) (t:=t) (ins:=ins) (H:=H) hi h0) fun T ht=>?_;refine⟨T,bE (fn:=gG) rfl rfl ⟨[DJ (.tup (aa ins)),DJ (.tup [.str nm,.int t]),DJ (.str (aE t ins).kind),DJ (.tup (aa (aE t ins).ins)),DJ (aE t ins).param],?_⟩⟩;unfold gG;generalize ad P W (n+7)=cl at *;have hct:eJ bU (.tup [.str nm,.int t])=t:=by unfold eJ;simp
 unfold dj;refine yF hct ?_;generalize aE t ins=f at *;simp only[mC,mN,dS,dR,D6,Et,Nat.reduceAdd,En,Nat.reduceSub,DY,Ee];refine bJ (cH (v:=f.v) (h1:=H++T) (aJ (vs:=[.int t,.tup (aa ins)]) (h1:=H) rfl ht) (by unfold F3.v;simp only[bp,pg,Ai,EF,EZ,D6,Et,En,if_true,Nat.reduceAdd,Nat.reduceLT]<;>rfl)) ?_;refine (aO (v:=F3.v ⟨bU,ins,.tup [.str nm,.int t]⟩) (cR (x:=decide (f.kind=df)) (by simp only[bd,aB,aU,aK,bt,oB,bG,df]<;>rfl)) (fun _=>by simp only[bd,aB,aU,cG,aw,aA,oB]<;>rfl) fun _=>bM (cX (v:=F3.v ⟨f.kind,f.ins,.none⟩) (h1:=H++T) (by simp only[bd,aB,aU,cG,aw,aA,oB]<;>rfl))).trans ?_;simp only[gb,xj]
noncomputable def ek:aZ->Nat->Hp->Option (AV × Hp)
 | [],_,_=>none
 | some v::_,0,h=>DJ (v,h)
 | none::_,0,_=>none
 | _::m,i+1,h=>ek m i h
noncomputable def qY:aZ->Nat->AV->Option aZ
 | [],_,_=>none
 | _::m,0,v=>DJ (DJ v::m)
 | x::m,i+1,v=>(qY m i v).map (x:: ·)
theorem nc(m:aZ)(i:Nat)(h:Hp):(match m[i]? with
  | some (DJ v)=>DJ (v,h)
  | _=>none)=ek m i h:=by
 induction m generalizing i with
 | nil=>rfl
 | cons x m ih=>
  cases i with
  | zero=>cases x<;>rfl
  | succ i=>cases x<;>exact ih i
theorem uT(m:aZ)(i:Nat)(v:AV):(if i<m.length then DJ (m.set i (DJ v)) else none)=qY m i v:=by
 induction m generalizing i with
 | nil=>rfl
 | cons x m ih=>
  cases i with
  | zero=>rfl
  | succ i=>(refine yF (show qY (x::m) (i+1) v=(qY m i v).map (x:: ·) from rfl) ?_;refine yB (ih i) ?_);simp only[D6,Nat.add_lt_add_iff_right,EZ];split<;>rfl
theorem bW(cl:aR)(i:Nat)(m:aZ)(h:Hp):aC cl (.loc i) m [] h=ek m i h:=nc m i h
theorem BA(cl:aR)(i:Nat)(m c:aZ)(x:Option AV)(h:Hp):aC cl (.loc i) m (x::c) h=ek (x::c) i h:=nc _ i h
theorem bx(cl:aR)(i:Nat)(m c:aZ)(h:Hp):aC cl (.free i) m c h=ek m i h:=nc m i h
theorem B9(v m h):ek (DJ v::m) 0 h=DJ (v,h):=rfl
theorem Ca(x m i h):ek (x::m) (i+1) h=ek m i h:=by cases x<;>rfl
theorem vY(m:aZ)(i:Nat)(v:AV):bp m (.one i) v=qY m i v:=uT m i v
theorem hU(m:aZ)(i:Nat)(is:List Nat)(v:AV)(vs:List AV):eV m (i::is) (v::vs)=(qY m i v).bind fun m=>eV m is vs:=by
 refine yB (uT _ _ _) ?_;dsimp only[Ai];split<;>rfl
theorem SK:(([98,117,102]:Nm)=aP)/\(([110,111,116]:Nm)=bC)/\(([97,110,100]:Nm)=eH)/\(([110,97,110,100]:Nm)=fq)/\(([111,114]:Nm)=kI)/\(([110,111,114]:Nm)=jj)/\(([120,111,114]:Nm)=fj)/\(([120,110,111,114]:Nm)=gM)/\
 (([109,117,120]:Nm)=ef)/\(([108,117,116]:Nm)=df)/\(([99,101,108,108]:Nm)=bU)/\(([102,108,111,112]:Nm)=ft)/\(([108,97,116,99,104]:Nm)=dL):=by
 refine⟨rfl,rfl,rfl,rfl,rfl,rfl,rfl,rfl,rfl,rfl,rfl,rfl,rfl⟩
noncomputable def mI:Nm:=[110,97,109,101]
noncomputable def iX:Nm:=[99,111,117,110,116]
noncomputable def fJ:Nm:=[105,110,112,117,116,115]
noncomputable def el:Nm:=[111,117,116,112,117,116,115]
noncomputable def fZ:Nm:=[99,101,108,108,115]
theorem SN:(([110,97,109,101]:Nm)=mI)/\(([99,111,117,110,116]:Nm)=iX)/\(([105,110,112,117,116,115]:Nm)=fJ)/\(([111,117,116,112,117,116,115]:Nm)=el)/\(([99,101,108,108,115]:Nm)=fZ):=⟨rfl,rfl,rfl,rfl,rfl⟩
theorem yV(x:Option AV)(m v):qY (x::m) 0 v=DJ (DJ v::m):=rfl
theorem yW(x:Option AV)(m i v):qY (x::m) (i+1) v=(qY m i v).map (x:: ·):=rfl
theorem Ar:([98,117,102]:Nm)=aP:=rfl
theorem Bg:([110,111,116]:Nm)=bC:=rfl
theorem C5:([97,110,100]:Nm)=eH:=rfl
theorem DE:([110,97,110,100]:Nm)=fq:=rfl
theorem C6:([111,114]:Nm)=kI:=rfl
theorem DF:([110,111,114]:Nm)=jj:=rfl
theorem DG:([120,111,114]:Nm)=fj:=rfl
theorem DH:([120,110,111,114]:Nm)=gM:=rfl
theorem BB:([109,117,120]:Nm)=ef:=rfl
theorem xl:([108,117,116]:Nm)=df:=rfl
theorem xm:([99,101,108,108]:Nm)=bU:=rfl
theorem xn:([102,108,111,112]:Nm)=ft:=rfl
theorem xp:([108,97,116,99,104]:Nm)=dL:=rfl
theorem CH:([110,97,109,101]:Nm)=mI:=rfl
theorem Cc:([99,111,117,110,116]:Nm)=iX:=rfl
theorem zS:([105,110,112,117,116,115]:Nm)=fJ:=rfl
theorem As:([111,117,116,112,117,116,115]:Nm)=el:=rfl
theorem t5:([99,101,108,108,115]:Nm)=fZ:=rfl
theorem SA:(∀ (f:AV->Option AV),[].map f=[])/\(∀ (f:AV->Option AV) a l,(a::l).map f=f a::l.map f)/\(∀ (l:aZ),[]++l=l)/\(∀ (a:Option AV) (l m:aZ),(a::l)++m=a::(l++m))/\(∀ (a:Option AV),D0 0 a=[])/\(∀ n (a:Option AV),D0 (n+1) a=a::D0 n a):=by
 refine⟨fun _=>rfl,fun _ _ _=>rfl,fun _=>rfl,fun _ _ _=>rfl,fun _=>rfl,fun _ _=>rfl⟩
structure aj where
 kind:Nm
 out:Int
 ins:List Int
 param:AV
noncomputable def aj.v(c:aj):AV:= .tup [.str c.kind,.int c.out,.tup (aa c.ins),c.param]
noncomputable def nW:List Nm:=[eH,fq,kI,jj,fj,gM]
inductive aT:Nm->Nat->AV->Prop where
 | lut (l t:Nat):1<=l->l<=3->aT df l (.int t)
 | cell (l t:Nat) (nm:Nm):1<=l->l<=3->aT bU l (.tup [.str nm,.int t])
 | mux:aT ef 3 .none
 | gate (k:Nm):k∈nW->aT k 2 .none
 | buf:aT aP 1 .none
 | not:aT bC 1 .none
inductive lp:Nm->Nat->AV->Prop where
 | flop (e i:Int) (nm:Nm):lp ft 4 (.tup [.int e,.str nm,.int i])
 | latch (i:Int) (nm:Nm):lp dL 4 (.tup [.str nm,.int i])
noncomputable def bh(k:Nm):Bool:=decide (k=ft) || decide (k=dL)
noncomputable def f3(f:cw):F3:=⟨f.1,f.2,.none⟩
noncomputable def cB(k:Nm)(p:AV)(ins:List Int)(inv:Int->Option Int):F3:=
 if k=df then aE (eJ k p) ins else if k=bU then dj ins p else if k=ef then f3 (dh (ins.getD 0 0) (ins.getD 1 0) (ins.getD 2 0))
 else if ins.length=2 then f3 (cy k (ins.getD 0 0) (ins.getD 1 0) (uS inv (ins.getD 0 0) (ins.getD 1 0))) else ⟨k,ins,.none⟩
noncomputable def em(inv:Int->Option Int)(f:F3):F3:=
 if f.kind=bC then (if f.ins.getD 0 0=0\/f.ins.getD 0 0=1 then ⟨aP,[1 - f.ins.getD 0 0],.none⟩ else match inv (f.ins.getD 0 0) with
  | some y=>⟨aP,[y],.none⟩
  | none=>f) else f
noncomputable def ck(k:Nm)(p:AV)(ins:List Int)(inv:Int->Option Int):F3:=em inv (cB k p ins inv)
theorem nX{t:Nat}{ins:List Int}(h:(aE t ins).ins=[]):False:=by
 unfold aE at h;split at h
 ·simp at h
 ·split at h
  ·rename_i a b;simp only at h;rw[h]at b;simp at b
  ·rename_i a b;simp only at h;rw[h]at a;simp at a
theorem qZ(h:f.2≠[]):(db f).2≠[]:=by
 unfold db;split
 ·exact h
 ·unfold cY;(repeat' split)<;>exact GR _ _
theorem uU(k:Nm)(a b:Int)(o:Bool):(cy k a b o).2≠[]:=by
 unfold cy;(repeat' split)
 ·exact tY _ _ _
 ·exact qZ (tY _ _ _)
 ·exact xf _ _ _
 ·exact qZ (xf _ _ _)
 ·exact tZ _ _ _
 ·exact qZ (tZ _ _ _)
theorem xq(s a b:Int):(dh s a b).2≠[]:=by unfold dh;(repeat' split)<;>exact GR _ _
theorem nY{ins:List Int}{inv:Int->Option Int}(hn:ins≠[]):(cB k p ins inv).ins≠[]:=by
 unfold cB;(repeat' split)
 ·exact fun q=>nX q
 ·unfold dj;split
  ·exact hn
  ·exact fun q=>nX q
 ·exact xq _ _ _
 ·exact uU _ _ _ _
 ·exact hn
theorem aT.lut'{L:Nat}(h:aT df L p):∃ t:Nat,1<=L/\L<=3/\p= .int t:=by
 generalize hK:df=K at h;cases h with
 | lut l t a b=>exact ⟨t,a,b,rfl⟩
 | gate k hk=>exact absurd (hK ▸ hk) (by decide)
 | _=>exact absurd hK (by decide)
theorem aT.cell'{L:Nat}(h:aT bU L p):∃ (t:Nat) (nm:Nm),1<=L/\L<=3/\p= .tup [.str nm,.int t]:=by
 generalize hK:bU=K at h;cases h with
 | cell l t nm a b=>exact ⟨t,nm,a,b,rfl⟩
 | gate k hk=>exact absurd (hK ▸ hk) (by decide)
 | _=>exact absurd hK (by decide)
theorem aT.mux'(h:aT ef L p):L=3:=by
 generalize hK:ef=K at h;cases h with
 | mux=>rfl
 | gate k hk=>exact absurd (hK ▸ hk) (by decide)
 | _=>exact absurd hK (by decide)
theorem aT.ne0(h:aT k L p):L≠0:=by
 cases h with
 | lut l t a b=>exact Ep a
 | cell l t nm a b=>exact Ep a
 | _=>decide
theorem At(h:l.length=n+1):∃ a t,l=a::t/\t.length=n:=by
 cases l with
 | nil=>exact absurd h.symm (Nat.succ_ne_zero _)
 | cons a t=>exact ⟨a,t,rfl,Nat.succ.inj h⟩
theorem xr(h:l.length=1):∃ a,l=[a]:=fL (At h) fun a _ e k=>⟨a,e.trans (congrArg _ (List.eq_nil_of_length_eq_zero k))⟩
theorem vZ(h:l.length=2):∃ a b,l=[a,b]:=fL (At h) fun a _ e k=>aq (xr k) fun b q=>⟨a,b,e.trans (congrArg _ q)⟩
theorem Au(h:l.length=3):∃ a b c,l=[a,b,c]:=fL (At h) fun a _ e k=>eR (vZ k) fun b c q=>⟨a,b,c,e.trans (congrArg _ q)⟩
theorem pq{W n r N:Nat}{out:Int}{oins ins:List Int}{inv:Int->Option Int}(ok:aT k ins.length p)(h0:∀ x∈ins,0<=x)(hr:aY H r inv N):
  ∃ T,ad P W (n+9) 35 [aj.v ⟨k,out,oins,p⟩,.tup (aa ins),.ref r] H=DJ ((ck k p ins inv).v,H++T):=by
 obtain⟨v,H',e,rfl,T,rfl⟩:∃ v H',ad P W (n+9) 35 [aj.v ⟨k,out,oins,p⟩,.tup (aa ins),.ref r] H=DJ (v,H')/\v=(ck k p ins inv).v/\∃ T,H'=H++T:=by
  let Q0:AV->Hp->Prop:=fun v H'=>v=(ck k p ins inv).v/\∃ T,H'=H++T
  refine bQ (Q:=Q0) (fn:=il) rfl rfl ?_;unfold il;have hopp:=fun a b=>nU (W:=W) (n:=n+7) (a:=a) (b:=b) hr;have hsel:=fun s a b=>ph (W:=W) (n:=n+7) (s:=s) (a:=a) (b:=b) (H:=H);have hgate:=fun k a b o=>sx (W:=W) (n:=n+6) (k:=k) (a:=a) (b:=b) (o:=o) (H:=H);have hlib:=fun nm t hl=>nV (W:=W) (n:=n) (t:=t) (nm:=nm) (ins:=ins) (H:=H) hl h0;have htab:=fun t hl=>ln (W:=W) (n:=n+1) (t:=t) (ins:=ins) (H:=H) hl h0;simp only[FO,Nat.reduceAdd]at hopp hsel hgate hlib htab;generalize ad P W (n+8)=cl at *;simp only[mN,mC,dR,dS,DY,Ee,Nat.reduceSub,Ar,Bg,BB,xl,xm];refine ac (m1:=[DJ (aj.v ⟨k,out,oins,p⟩),DJ (.tup (aa ins)),DJ (.ref r),DJ (.str k),none]) (h1:=H) (by unfold aj.v;simp only[bd,aB,bD,cQ,iW,oB]<;>rfl) rfl ?_;refine ac (m1:=[DJ (aj.v ⟨k,out,oins,p⟩),DJ (.tup (aa ins)),DJ (.ref r),DJ (.str k),DJ .none]) (h1:=H) (by simp only[bd]<;>rfl) rfl ?_;have fin:∀ (F:F3) (T:Hp),F.ins≠[]->ck k p ins inv=em inv F->Ok (cF cl W [.ite (.cmp .eq (.loc 3) (.const (.str bC))) [.ite (.bop false [(.cmp .eq (.sub (.loc 1) (.const (.int 0))) (.const (.int 0))),(.cmp .eq (.sub (.loc 1) (.const (.int 0))) (.const (.int 1)))]) [.ret (.tup [(.const (.str aP)),(.tup [(.bin .sub (.const (.int 1)) (.sub (.loc 1) (.const (.int 0))))]),(.const .none)])] [],.ite (.cmp .in_ (.sub (.loc 1) (.const (.int 0))) (.loc 2)) [.ret (.tup [(.const (.str aP)),(.tup [(.sub (.loc 2) (.sub (.loc 1) (.const (.int 0))))]),(.const .none)])] []] [],
   .ret (.tup [(.loc 3),(.loc 1),(.loc 4)])] [DJ (aj.v ⟨k,out,oins,p⟩),DJ (.tup (aa F.ins)),DJ (.ref r),DJ (.str F.kind),DJ F.param] (H++T)) (fun f _ h=>(∃ v,f= .ret v/\v=(ck k p ins inv).v/\∃ T,h=H++T)\/(f= .next/\AV.none=(ck k p ins inv).v/\∃ T,h=H++T)):=by
   intro F T hF hs;refine yF hs ?_;have hr2:aY (H++T) r inv N:=hr.keep (ai.push H T);obtain⟨fk,fi,fp⟩:=F;obtain⟨a,l,rfl⟩:∃ a l,fi=a::l:=by
    cases fi with
    | nil=>exact absurd rfl hF
    | cons a l=>exact ⟨a,l,rfl⟩
   simp only;refine cg (c:=decide (fk=bC)) (h1:=H++T) (by simp only[bd,aB,aU,aK,cW,cq,bt,bG,oB]) ?_ ?_
   ·intro hk;have hk:=of_decide_eq_true hk;subst hk;refine cg (c:=decide (a=0) || decide (a=1)) (h1:=H++T) (Ao (by simp only[bd,aB,aU,aK,bD,bt,cQ,iW,aD,oB,aa,mC]) (by simp only[bd,aB,aU,aK,bD,bt,cQ,iW,aD,oB,aa,mC])) ?_ ?_
    ·intro ha;refine bK (v:=F3.v ⟨aP,[1 - a],.none⟩) (h1:=H++T) (by simp only[bd,aB,aU,jQ,cG,bD,aw,aA,ec,wW,cQ,iW,oB,oM,aa,mC]<;>rfl) ⟨fun e=>by simp at e,fun _=>⟨fun e=>by simp at e,fun _=>Ed ⟨_,rfl,?_,T,rfl⟩⟩⟩;have ha:a=0\/a=1:=by simpa using ha
     simp[em,ha]
    ·intro ha;have ha:¬ (a=0\/a=1):=by
      intro q;rcases q with rfl | rfl<;>simp at ha
     refine aN ⟨fun _=> ?_,fun e=>absurd rfl e⟩;refine cg (c:=(inv a).isSome) (h1:=H++T) (by simp only[bd,aB,aU,aK,bD,cW,cq,kF,cQ,iW,oB,aa,mC,hr2.has]) ?_ ?_
     ·intro hi;refine aq (HO.mp hi) fun y hy=>?_;refine bK (v:=F3.v ⟨aP,[y],.none⟩) (h1:=H++T) (by simp only[bd,aB,aU,cG,bD,aw,aA,cQ,iW,oB,aa,mC,hr2.sub hy]<;>rfl) ⟨fun e=>by simp at e,fun _=>⟨fun e=>by simp at e,fun _=>Ed ⟨_,rfl,?_,T,rfl⟩⟩⟩;simp[em,ha,hy]
     ·intro hi;have hi:inv a=none:=by simpa using hi
      refine aN ⟨fun _=>aN ⟨fun _=>bK (v:=F3.v ⟨bC,a::l,fp⟩) (h1:=H++T) (by simp only[aB,aU,cG,aw,aA,oB]<;>rfl) (Ed ⟨_,rfl,?_,T,rfl⟩),fun e=>absurd rfl e⟩,fun e=>absurd rfl e⟩;simp[em,ha,hi]
   ·intro hk;have hk:=of_decide_eq_false hk;refine aN ⟨fun _=>bK (v:=F3.v ⟨fk,a::l,fp⟩) (h1:=H++T) (by simp only[aB,aU,cG,aw,aA,oB]<;>rfl) (Ed ⟨_,rfl,?_,T,rfl⟩),fun e=>absurd rfl e⟩;simp[em,hk]
  have hkind:∀ (m:aZ) (K:Nm),f9 cl (.cmp .eq (.loc 3) (.const (.str K))) [DJ (aj.v ⟨k,out,oins,p⟩),DJ (.tup (aa ins)),DJ (.ref r),DJ (.str k),DJ .none] H=DJ (decide (k=K),H):=fun m K=>by simp only[bd,aB,aU,aK,cW,cq,bt,bG,oB]
  have hSF:ck k p ins inv=em inv (cB k p ins inv):=rfl;have hne:ins≠[]->(cB k p ins inv).ins≠[]:=nY;refine cg (hkind [] _) ?_ ?_
  ·intro q;have q:=of_decide_eq_true q;subst q;obtain⟨t,hl1,hl,rfl⟩:=ok.lut';refine aq (htab t hl) fun T ht=>?_;have hF:cB df (.int t) ins inv=aE t ins:=by unfold cB;refine DK (if_pos rfl) ?_;rfl
   rw[hF]at hSF;refine di (m1:=[DJ (aj.v ⟨df,out,oins,.int t⟩),DJ (.tup (aa (aE t ins).ins)),DJ (.ref r),DJ (.str (aE t ins).kind),DJ (aE t ins).param]) (h1:=H++T) ?_ (aN ⟨fun _=>fin _ T (fun q=>nX q) hSF,fun e=>absurd rfl e⟩);refine cH (v:=(aE t ins).v) (h1:=H++T) (aJ (vs:=[.int t,.tup (aa ins)]) (h1:=H) (by unfold aj.v;simp only[bd,aB,aU,bD,aw,aA,cQ,tP,oB]) ht) (by unfold F3.v;simp only[sg,pg,hU,yV,yW,oB,oM])
  ·intro q1;have q1:=of_decide_eq_false q1;refine cg (hkind [] _) ?_ ?_
   ·intro q;have q:=of_decide_eq_true q;subst q;obtain⟨t,nm,hl1,hl,rfl⟩:=ok.cell';refine aq (hlib nm t hl) fun T ht=>?_;have hF:cB bU (.tup [.str nm,.int t]) ins inv=dj ins (.tup [.str nm,.int t]):=by unfold cB;refine DK (if_neg (by decide)) ?_;refine DK (if_pos rfl) ?_;rfl
    rw[hF]at hSF;have hn:(dj ins (.tup [.str nm,.int t])).ins≠[]:=by refine yB hF ?_;exact nY (fun e=>by rw[e]at hl1;simp at hl1)
    refine di (m1:=[DJ (aj.v ⟨bU,out,oins,.tup [.str nm,.int t]⟩),DJ (.tup (aa (dj ins (.tup [.str nm,.int t])).ins)),DJ (.ref r),DJ (.str (dj ins (.tup [.str nm,.int t])).kind),DJ (dj ins (.tup [.str nm,.int t])).param]) (h1:=H++T) ?_ (aN ⟨fun _=>aN ⟨fun _=>fin _ T hn hSF,fun e=>absurd rfl e⟩,fun e=>absurd rfl e⟩);refine cH (v:=(dj ins (.tup [.str nm,.int t])).v) (h1:=H++T) (aJ (vs:=[.tup (aa ins),.tup [.str nm,.int t]]) (h1:=H) (by unfold aj.v;simp only[bd,aB,aU,bD,aw,aA,cQ,tP,oB]) ht) (by unfold F3.v;simp only[sg,pg,hU,yV,yW,oB,oM])
   ·intro q2;have q2:=of_decide_eq_false q2;refine cg (hkind [] _) ?_ ?_
    ·intro q;have q:=of_decide_eq_true q;subst q;have hl:ins.length=3:=ok.mux';obtain⟨a,b,c,rfl⟩:∃ a b c,ins=[a,b,c]:=Au hl;have ht:=hsel a b c;have hF:cB ef p [a,b,c] inv=f3 (dh a b c):=by unfold cB;refine DK (if_neg (by decide)) ?_;refine DK (if_neg (by decide)) ?_;refine DK (if_pos rfl) ?_;rfl
     rw[hF]at hSF;refine di (m1:=[DJ (aj.v ⟨ef,out,oins,p⟩),DJ (.tup (aa (dh a b c).2)),DJ (.ref r),DJ (.str (dh a b c).1),DJ .none]) (h1:=H) ?_ (aN ⟨fun _=>aN ⟨fun _=>aN ⟨fun _=> ?_,fun e=>absurd rfl e⟩,fun e=>absurd rfl e⟩,fun e=>absurd rfl e⟩)
     ·refine cH (v:=(dh a b c).v) (h1:=H) (aJ (vs:=[.int a,.int b,.int c]) (h1:=H) rfl ht) (by unfold cw.v;simp only[sg,pg,hU,yV,yW,oB,oM])
     ·have:=fin (f3 (dh a b c)) [] (xq _ _ _) hSF;rw[EC]at this;exact this
    ·intro q3;have q3:=of_decide_eq_false q3;refine cg (c:=decide (ins.length=2)) (h1:=H) (by simp only[bd,aB,aU,aK,cO,aw,aA,cW,cq,bt,wX,aD,oB,aa,DR];congr 2;rewrite[decide_eq_decide];exact FP) ?_ ?_
     ·intro q;have hl:=of_decide_eq_true q;obtain⟨a,b,rfl⟩:∃ a b,ins=[a,b]:=vZ hl;have ho:=hopp a b;have hg:=hgate k a b (uS inv a b);have hF:cB k p [a,b] inv=f3 (cy k a b (uS inv a b)):=by unfold cB;refine DK (if_neg q1) ?_;refine DK (if_neg q2) ?_;refine DK (if_neg q3) ?_;refine yF (if_pos (show [a,b].length=2 from rfl)) ?_;rfl
      rw[hF]at hSF;refine di (m1:=[DJ (aj.v ⟨k,out,oins,p⟩),DJ (.tup (aa (cy k a b (uS inv a b)).2)),DJ (.ref r),DJ (.str (cy k a b (uS inv a b)).1),DJ .none]) (h1:=H) ?_ (aN ⟨fun _=>aN ⟨fun _=>aN ⟨fun _=>aN ⟨fun _=> ?_,fun e=>absurd rfl e⟩,fun e=>absurd rfl e⟩,fun e=>absurd rfl e⟩,fun e=>absurd rfl e⟩)
      ·refine cH (v:=(cy k a b (uS inv a b)).v) (h1:=H) (aJ (vs:=[.str k,.int a,.int b,.bool (uS inv a b)]) (h1:=H) (by simp only[bd,aB,aU,bD,ej,aw,aA,cQ,iW,nK,oB,aa,mC,ho]) hg) (by unfold cw.v;simp only[sg,pg,hU,yV,yW,oB,oM])
      ·have:=fin (f3 (cy k a b (uS inv a b))) [] (uU _ _ _ _) hSF;rw[EC]at this;exact this
     ·intro q;have hl:=of_decide_eq_false q;have hF:cB k p ins inv=⟨k,ins,.none⟩:=by unfold cB;refine DK (if_neg q1) ?_;refine DK (if_neg q2) ?_;refine DK (if_neg q3) ?_;refine DK (if_neg hl) ?_;rfl
      rw[hF]at hSF;refine aN ⟨fun _=>aN ⟨fun _=>aN ⟨fun _=>aN ⟨fun _=> ?_,fun e=>absurd rfl e⟩,fun e=>absurd rfl e⟩,fun e=>absurd rfl e⟩,fun e=>absurd rfl e⟩;have:=fin ⟨k,ins,.none⟩ [] (fun e=>ok.ne0 (congrArg Kg (show ins=[] from e))) hSF;rw[EC]at this;exact this
 exact⟨T,e⟩
section
section
variable {cl:aR} {W:Nat} {ss:List S} {m m1:aZ} {h h1 h2 h3 h4:Hp} {Q:Fl->aZ->Hp->Prop}
theorem fB(e1:aC cl e m [] h=DJ (v,h1))(e2:aC cl o m [] h1=DJ (x,h2))(e3:dI h2 x n v=DJ h3)(k:Ok (cF cl W ss m h3) Q):Ok (cF cl W (.setAttr o n e::ss) m h) Q:=by
 refine di (m1:=m) (h1:=h3) ?_ k;exact bs e1 (bs e2 (bs e3 rfl))
theorem bk(e1:aC cl e m [] h=DJ (v,h1))(e2:aC cl o m [] h1=DJ (x,h2))(e3:aC cl i m [] h2=DJ (y,h3))(e4:dq h3 x y v=DJ h4)(k:Ok (cF cl W ss m h4) Q):Ok (cF cl W (.setSub o i e::ss) m h) Q:=by
 refine di (m1:=m) (h1:=h4) ?_ k;exact bs e1 (bs e2 (bs e3 (bs e4 rfl)))
theorem jX(e1:aC cl (.loc i) m [] h=DJ (x,h1))(e2:aC cl e m [] h1=DJ (v,h2))(e3:jl h2 op x v=DJ (r,h3))(e4:bp m (.one i) r=DJ m1)(k:Ok (cF cl W ss m1 h3) Q):Ok (cF cl W (.augLoc i op e::ss) m h) Q:=by
 refine di (m1:=m1) (h1:=h3) ?_ k;exact bs e1 (bs e2 (bs e3 (bs e4 rfl)))
theorem v6(e1:aC cl o m [] h=DJ (x,h1))(e2:aC cl i m [] h1=DJ (y,h2))(e3:fS h2 x y=DJ old)(e4:aC cl e m [] h2=DJ (v,h3))(e5:jl h3 op old v=DJ (r,h4))(e6:dq h4 x y r=DJ h5)(k:Ok (cF cl W ss m h5) Q):Ok (cF cl W (.augSub o i op e::ss) m h) Q:=by
 refine di (m1:=m) (h1:=h5) ?_ k;exact bs e1 (bs e2 (bs e3 (bs e4 (bs e5 (bs e6 rfl)))))
theorem cS(k:Ok (cF cl W ss m h) Q):Ok (cF cl W [] m h) (fun f m h=>(f= .next->Ok (cF cl W ss m h) Q)/\(f≠ .next->Q f m h)):=aN ⟨fun _=>k,fun e=>absurd rfl e⟩
theorem bz(k:Q .next m h):Ok (cF cl W [] m h) (fun f m h=>(f= .next->Ok (cF cl W [] m h) Q)/\(f≠ .next->Q f m h)):=cS (aN k)
end
theorem eA{H T:Hp}{k:Nat}:(H++T)[H.length+k]? =T[k]? :=by refine DK (D9 (D5 _ _)) ?_;congr 1;exact HU ..
theorem au{H T:Hp}:(H++T)[H.length]? =T[0]? :=eA (k:=0)
theorem yX{H T:Hp}{k:Nat}{o:AO}:(H++T).set (H.length+k) o=H++T.set k o:=by refine yF (HE _ _ (D5 _ _)) ?_;congr 2;exact HU ..
theorem sA{H T:Hp}{o:AO}:(H++T).set H.length o=H++T.set 0 o:=yX (k:=0)
theorem ai.set{H h:Hp}(k:ai H h){a:Nat}{o:AO}(ha:H.length<=a):ai H (h.set a o):=fun i x e=>by
 have:=(gS.mp e).1;refine yF (gN (by with_unfolding_all exact Ep (bS (nat_lit 12129358850082) tt this ha))) ?_;exact k i x e
theorem ai.snoc(k:ai H h)(T:Hp):ai H (h++T):=k.trans (ai.push h T)
abbrev jv:=Nm × List Int
structure NL where
 name:Nm
 count:Int
 inputs:List jv
 outputs:List jv
 cells:List aj
noncomputable def cC(h:Hp)(b:Nat)(vs:List AV)(ps:List jv):Prop:=vs.length=ps.length/\∀ (j:Nat) (p:jv),ps[j]? =DJ p->∃ a,b<a/\vs[j]? =DJ (.tup [.str p.1,.ref a])/\h[a]? =DJ (.list (aa p.2))
theorem cC.keep(q:cC h b vs ps)(k:∀ a o,b<a->h[a]? =DJ o->h'[a]? =DJ o):cC h' b vs ps:=
 ⟨q.1,fun j p e=>by refine aM (q.2 j p e) fun a x y z=>?_;exact⟨a,x,y,k _ _ x z⟩⟩
theorem cC.nil:cC h b [] []:=⟨rfl,fun j p e=>by simp at e⟩
theorem cC.snoc{h:Hp}{b a:Nat}{vs:List AV}{ps:List jv}{p:jv}(q:cC h b vs ps)(ha:b<a)(e:h[a]? =DJ (.list (aa p.2))):cC h b (vs++[.tup [.str p.1,.ref a]]) (ps++[p]):=by
 refine⟨by simp[q.1],fun j p' e'=> ?_⟩;by_cases hj:j<ps.length
 ·rw[Eh hj]at e';refine aM (q.2 j p' e') fun a' x y z=>?_;exact⟨a',x,by (rewrite[Eh (by have:=q.1;exact bS (nat_lit 12129358853185) tt hj this)]);exact y,z⟩
 ·have hl:=(gS.mp e').1;rw[DU,Ex]at hl;have:j=ps.length:=Eo (bu (nat_lit 11029854074912) tt hl) (bu (nat_lit 336603168) tt (E6 hj));subst this;rw[D9 (DV _),EH]at e';refine jA e' ?_;exact⟨a,ha,by (rewrite[<- q.1];refine DK (D9 (DV _)) ?_;refine yF (EH _) ?_);rfl,e⟩
noncomputable def iY(L:Nat)(N:NL):List (AV × AV):=[(.str mI,.str N.name),(.str iX,.int N.count),(.str fJ,.ref (L+2)),(.str el,.ref (L+3)),(.str fZ,.ref (L+4))]
structure aI(h:Hp)(L:Nat)(N:NL):Prop where
 hd:h[L]? =DJ (.dict (iY L N))
 hi:h[L+1]? =DJ (.inst L)
 inp:∃ vi,h[L+2]? =DJ (.list vi)/\cC h (L+4) vi N.inputs
 outp:∃ vo,h[L+3]? =DJ (.list vo)/\cC h (L+4) vo N.outputs
 cel:h[L+4]? =DJ (.list (N.cells.map aj.v))
theorem aI.keep(q:aI h L N)(k:ai h h'):aI h' L N:=by
 obtain⟨a,b,⟨vi,c1,c2⟩,⟨vo,d1,d2⟩,e⟩:=q;exact⟨k _ _ a,k _ _ b,⟨vi,k _ _ c1,c2.keep fun _ _ _ z=>k _ _ z⟩,⟨vo,k _ _ d1,d2.keep fun _ _ _ z=>k _ _ z⟩,k _ _ e⟩
theorem aI.set(q:aI h L N)(ha:a<L):aI (h.set a o) L N:=by
 obtain⟨a,b,⟨vi,c1,c2⟩,⟨vo,d1,d2⟩,e⟩:=q;refine⟨?_,?_,⟨vi,?_,c2.keep fun x _ _ z=> ?_⟩,⟨vo,?_,d2.keep fun x _ _ z=> ?_⟩,?_⟩<;>(refine yF (gN (by (first | exact D4 ha | exact Di ‹_› ha | exact D4 (Nat.lt_add_right _ ha)))) ?_;assumption)
theorem aI.attr{L:Nat}(q:aI h L N):jg h (.ref (L+1)) mI=DJ (.str N.name)/\jg h (.ref (L+1)) iX=DJ (.int N.count)/\jg h (.ref (L+1)) fJ=DJ (.ref (L+2))/\jg h (.ref (L+1)) el=DJ (.ref (L+3))/\jg h (.ref (L+1)) fZ=DJ (.ref (L+4)):=by
 have a:=q.hd;have b:=q.hi;refine⟨?_,?_,?_,?_,?_⟩<;>(unfold jg;simp only[b,a];rfl)
theorem aI.okI(q:aI h L N):lZ h (L+1)=true:=by
 have a:=q.hd;have b:=q.hi;unfold lZ;simp only[b,a];rfl
theorem aI.pushCell{h:Hp}{L:Nat}{N:NL}(q:aI h L N)(c:aj):aI (h.set (L+4) (.list (N.cells.map aj.v++[c.v]))) L { N with cells:=N.cells++[c] }:=by
 obtain⟨a,b,⟨vi,c1,c2⟩,⟨vo,d1,d2⟩,e⟩:=q;refine⟨?_,?_,⟨vi,?_,c2.keep fun x _ _ z=> ?_⟩,⟨vo,?_,d2.keep fun x _ _ z=> ?_⟩,?_⟩
 ·refine yF (gN (by with_unfolding_all exact Ep (dm (nat_lit 378157056) tt))) ?_;assumption
 ·refine yF (gN (by with_unfolding_all exact Ep (dm (nat_lit 12391450691008) tt))) ?_;assumption
 ·refine yF (gN (by with_unfolding_all exact Ep (dm (nat_lit 12391450692032) tt))) ?_;assumption
 ·refine yF (gN (D4 ‹_›)) ?_;assumption
 ·refine yF (gN (Fb _)) ?_;assumption
 ·refine yF (gN (D4 ‹_›)) ?_;assumption
 ·refine yF (bH _ _ _ (gS.mp e).1) ?_;refine yF Ez ?_;rfl
theorem aI.pushIn{h:Hp}{L:Nat}{N:NL}{vi:List AV}(q:aI h L N)(e:h[L+2]? =DJ (.list vi)){p:jv}{a:Nat}(ha:L+4<a)(hp:h[a]? =DJ (.list (aa p.2))):aI (h.set (L+2) (.list (vi++[.tup [.str p.1,.ref a]]))) L { N with inputs:=N.inputs++[p] }:=by
 obtain⟨x,b,⟨vi',c1,c2⟩,⟨vo,d1,d2⟩,y⟩:=q;rw[e]at c1;cases c1;refine⟨?_,?_,⟨_,bH _ _ _ (gS.mp e).1,cC.snoc (c2.keep fun x _ _ z=> ?_) ha ?_⟩,⟨vo,?_,d2.keep fun x _ _ z=> ?_⟩,?_⟩<;>(refine yF (gN (by (first | exact yL (by decide) | exact Be ‹_› (by decide) | exact Be (i:=0) ‹_› (by decide) | exact yL (i:=0) (by decide) | exact yL (j:=0) (by decide) | exact Fb _))) ?_;assumption)
theorem aI.pushOut{h:Hp}{L:Nat}{N:NL}{vo:List AV}(q:aI h L N)(e:h[L+3]? =DJ (.list vo)){p:jv}{a:Nat}(ha:L+4<a)(hp:h[a]? =DJ (.list (aa p.2))):aI (h.set (L+3) (.list (vo++[.tup [.str p.1,.ref a]]))) L { N with outputs:=N.outputs++[p] }:=by
 obtain⟨x,b,⟨vi,c1,c2⟩,⟨vo',d1,d2⟩,y⟩:=q;rw[e]at d1;cases d1;refine⟨?_,?_,⟨vi,?_,c2.keep fun x _ _ z=> ?_⟩,⟨_,bH _ _ _ (gS.mp e).1,cC.snoc (d2.keep fun x _ _ z=> ?_) ha ?_⟩,?_⟩<;>(refine yF (gN (by (first | exact yL (by decide) | exact Be ‹_› (by decide) | exact Be (i:=0) ‹_› (by decide) | exact yL (i:=0) (by decide) | exact yL (j:=0) (by decide) | exact Fb _))) ?_;assumption)
theorem aI.setCount{h:Hp}{L:Nat}{N:NL}(q:aI h L N)(c:Int):dI h (.ref (L+1)) iX (.int c)=DJ (h.set L (.dict (iY L { N with count:=c })))/\aI (h.set L (.dict (iY L { N with count:=c }))) L { N with count:=c }:=by
 obtain⟨x,b,⟨vi,c1,c2⟩,⟨vo,d1,d2⟩,y⟩:=q;refine⟨by unfold dI;simp only[b,x];rfl,bH _ _ _ (gS.mp x).1,?_,⟨vi,?_,c2.keep fun x _ _ z=> ?_⟩,⟨vo,?_,d2.keep fun x _ _ z=> ?_⟩,?_⟩<;>(refine yF (gN (by first | exact yL (by decide) | exact Be ‹_› (by decide) | exact Be (i:=0) ‹_› (by decide) | exact yL (i:=0) (by decide) | exact yL (j:=0) (by decide))) ?_;assumption)
noncomputable def fin(rep:Int->Option Int)(x:Int):Int:=(rep x).getD x
noncomputable def nZ(rep:Int->Option Int):Prop:=∀ x y,rep x=DJ y->rep y=none
theorem mJ{n r N:Nat}{rep:Int->Option Int}{x:Int}(hr:aY H r rep N)(hc:nZ rep):ad P 1000 (n+1) 21 [.ref r,.int x] H=DJ (.int (fin rep x),H):=by
 obtain⟨v,H',e,rfl,rfl⟩:∃ v H',ad P 1000 (n+1) 21 [.ref r,.int x] H=DJ (v,H')/\v= .int (fin rep x)/\H'=H:=by
  let Q0:AV->Hp->Prop:=fun v H'=>v= .int (fin rep x)/\H'=H
  refine bQ (Q:=Q0) (fn:=jm) rfl rfl ?_;unfold jm;generalize ad P 1000 n=cl;simp only[mN,mC,dR,dS,DY,Nat.reduceSub];refine nQ (fun k m h=>h=H/\∃ y,m=[DJ (.ref r),DJ (.int y)]/\((y=x/\k=1)\/(rep x=DJ y/\k=0))) (fun m h=>h=H/\m=[DJ (.ref r),DJ (.int (fin rep x))]) 1 (by decide) ⟨rfl,x,rfl,Ed ⟨rfl,rfl⟩⟩ ?_ ?_
  ·intro k m h z4;refine am z4 fun z130 z145=>?_;clear z4;subst z130;refine af z145 fun y z201 hy=>?_;clear z145;subst z201;cases hry:rep y with
   | none=>
    refine Ed ⟨h,by simp only[aB,aU,aK,cW,cq,kF,oB,hr.has,hry,G0],rfl,?_⟩;unfold fin;rcases hy with⟨rfl,_⟩ | ⟨hx,_⟩
    ·refine yF hry ?_;rfl
    ·refine yF hx ?_;rfl
   | some z=>
    refine Ew ⟨h,by simp only[aB,aU,aK,cW,cq,kF,oB,hr.has,hry,G1],?_⟩;refine ac (v:= .int z) (h1:=h) (m1:=[DJ (.ref r),DJ (.int z)]) (by simp only[aB,aU,bD,oB,hr.sub hry]) rfl (aN ⟨by simp,?_⟩);rcases hy with⟨rfl,rfl⟩ | ⟨hx,_⟩
    ·exact⟨0,by decide,rfl,z,rfl,Ew ⟨hry,rfl⟩⟩
    ·rw[hc _ _ hx]at hry;cases hry
  ·intro m h z3;refine am z3 fun z100 z101=>?_;clear z3;subst z100;subst z101;exact bK (v:= .int (fin rep x)) (h1:=h) rfl (Ed ⟨_,rfl,rfl,rfl⟩)
 exact e
theorem xu{W n:Nat}{nm:Nm}{H:Hp}:ad P W (n+1) 0 [.ref (H.length+1),.str nm] (H++[.dict [],.inst H.length])=DJ (.none,H++[.dict (iY H.length ⟨nm,2,[],[],[]⟩),.inst H.length,.list [],.list [],.list []]):=by
 obtain⟨v,H',e,rfl,rfl⟩:∃ v H',ad P W (n+1) 0 [.ref (H.length+1),.str nm] (H++[.dict [],.inst H.length])=DJ (v,H')/\v= .none/\H'=H++[.dict (iY H.length ⟨nm,2,[],[],[]⟩),.inst H.length,.list [],.list [],.list []]:=by
  let Q0:AV->Hp->Prop:=fun v H'=>v= .none/\H'=H++[.dict (iY H.length ⟨nm,2,[],[],[]⟩),.inst H.length,.list [],.list [],.list []]
  refine bQ (Q:=Q0) (fn:=gD) rfl rfl ?_;unfold gD;generalize ad P W n=cl;simp only[mN,mC,dR,dS,DY,Nat.reduceSub,CH,Cc,zS,As,t5];have st:∀ (es:List (AV × AV)) (T:Hp) (nn:Nm) (v:AV),es.length<100->ku es=true->cj.contains nn=true->dI (H++(.dict es:: .inst H.length::T)) (.ref (H.length+1)) nn v=DJ (H++(.dict (dz es (.str nn) v):: .inst H.length::T)):=by
   intro es T nn v a b c;unfold dI;simp only[eA,au,EL,F0,sA,EF,a,b,c,and_self,if_true]
  have dl:∀ (es:List (AV × AV)) (k v:AV),(dz es k v).length<=es.length+1:=ju;refine fB (v:= .str nm) (h1:=H++[.dict [],.inst H.length]) (x:= .ref (H.length+1)) (h2:=H++[.dict [],.inst H.length]) rfl rfl (st [] [] _ _ (by decide) (by decide) (by decide)) ?_;refine fB (v:= .int 2) (x:= .ref (H.length+1)) (by simp only[bd]<;>rfl) (by simp only[aB]<;>rfl) (st (dz [] (.str mI) (.str nm)) [] _ _ (by show 1<100;decide) (by rfl) (by decide)) ?_;refine fB (v:= .ref (H.length+2)) (x:= .ref (H.length+1)) (by simp only[pf,aw,oB,DU,D6,Et,D1,dS,dR]<;>rfl) (by simp only[aB]<;>rfl) (st [(.str mI,.str nm),(.str iX,.int 2)] [.list []] _ _ (by show 2<100;decide) (by rfl) (by decide)) ?_;refine fB (v:= .ref (H.length+3)) (x:= .ref (H.length+1)) (by simp only[pf,aw,oB,DU,D6,Et,D1,dS,dR]<;>rfl) (by simp only[aB]<;>rfl) (st [(.str mI,.str nm),(.str iX,.int 2),(.str fJ,.ref (H.length+2))] [.list [],.list []] _ _ (by show 3<100;decide) (by rfl) (by decide)) ?_;refine fB (v:= .ref (H.length+4)) (x:= .ref (H.length+1)) (by simp only[pf,aw,oB,DU,D6,Et,D1,dS,dR]<;>rfl) (by simp only[aB]<;>rfl) (st [(.str mI,.str nm),(.str iX,.int 2),(.str fJ,.ref (H.length+2)),(.str el,.ref (H.length+3))] [.list [],.list [],.list []] _ _ (by show 4<100;decide) (by rfl) (by decide)) ?_;exact aN (Ew ⟨rfl,rfl,rfl⟩)
 exact e
theorem aI.new{H:Hp}{nm:Nm}:aI (H++[.dict (iY H.length ⟨nm,2,[],[],[]⟩),.inst H.length,.list [],.list [],.list []]) H.length ⟨nm,2,[],[],[]⟩:=
 ⟨au,eA,⟨[],eA,cC.nil⟩,⟨[],eA,cC.nil⟩,eA⟩
end
noncomputable def Kx(L:Nat)(h h':Hp):Prop:=∀ k o,(k<L\/L+4<k)->h[k]? =DJ o->h'[k]? =DJ o
theorem Kx.refl:Kx L h h:=fun _ _ _ e=>e
theorem Kx.trans(a:Kx L h h1)(b:Kx L h1 h2):Kx L h h2:=fun k o x e=>b k o x (a k o x e)
theorem ai.kx(a:ai h h'):Kx L h h':=fun k o _ e=>a k o e
theorem Kx.keep{L:Nat}{H h h':Hp}(a:Kx L h h')(k:ai H h)(hl:H.length<=L):ai H h':=fun i o e=>a i o (by have:=(gS.mp e).1;exact .inl (bS (nat_lit 12129358850082) tt this hl)) (k i o e)
theorem Kx.set(h1:L<=a)(h2:a<=L+4):Kx L h (h.set a o):=fun k x q e=>by refine yF (gN (by lia)) ?_;exact e
theorem jY(e:h[a]? =DJ (.list vs)):pH h .list [.ref a]=DJ (.ref h.length,h++[.list vs]):=by simp only[Cz,fm,e]
theorem sB(e:h[a]? =DJ (.list vs)):pH h .tuple [.ref a]=DJ (.tup vs,h):=by simp only[Bt,fm,e]
theorem dc{a:Nat}(e:h[a]? =DJ (.list vs)):pH h .len [.ref a]=DJ (.int vs.length,h):=by simp only[vO,fm,e]
theorem uV(e:h[a]? =DJ (.list vs))(hm:me≠ .get):r7 h me (.ref a)=true:=by unfold r7;simp only[e]
theorem v7(e:h[a]? =DJ (.list vs))(hl:vs.length<=1000):wV h .append (.ref a) [v]=DJ (.none,h.set a (.list (vs++[v]))):=by simp only[Ak,fm,e,aV hl,if_true]
theorem cK(e1:aC cl o m c h=DJ (.ref a,h1))(e2:h1[a]? =DJ (.list vs))(e3:aC cl e m c h1=DJ (v,h2))(e4:h2[a]? =DJ (.list vs2))(hl:vs2.length<=1000):aC cl (.bm .append o [e]) m c h=DJ (.none,h2.set a (.list (vs2++[v]))):=by
 simp only[mj,aw,aA,oB,if_true,e1,oB,uV e2 (by simp:Me.append≠ .get),if_true,e3,oM,v7 e4 hl]
theorem dA(e1:aC cl o m c h=DJ (.ref a,h1))(e2:lZ h1 a=true)(e3:iP cl es m c h1=DJ (vs,h2))(e4:cl f (.ref a::vs) h2=r):aC cl (.meth o f es) m c h=r:=by
 exact bs e1 ((if_pos e2).trans (bs e3 e4))
theorem uW(e1:iP cl es m c h=DJ (vs,h1))(e2:cl 0 (.ref (h1.length+1)::vs) (h1++[.dict [],.inst h1.length])=DJ (.none,h2)):aC cl (.new es) m c h=DJ (.ref (h1.length+1),h2):=by
 exact bs e1 (bs e2 rfl)
theorem q6{W n L a:Nat}{out:Int}{ins:List Int}(q:aI h L N)(ha:h[a]? =DJ (.list (aa ins)))(hl:N.cells.length<=1000):ad P W (n+1) 7 [.ref (L+1),.int out,.str k,.ref a,p] h=DJ (.none,h.set (L+4) (.list (N.cells.map aj.v++[aj.v ⟨k,out,ins,p⟩]))):=by
 refine nL (fn:=fV) rfl rfl ⟨[DJ (.ref (L+1)),DJ (.int out),DJ (.str k),DJ (.ref a),DJ p],?_⟩;unfold fV;generalize ad P W n=cl;have at1:=q.attr;simp only[mN,mC,dR,dS,DY,Nat.reduceSub,t5];refine bJ (jt (v:= .none) (cK (h1:=h) (h2:=h) (a:=L+4) (v:=aj.v ⟨k,out,ins,p⟩) (by simp only[aB,cV,oB,at1,oM]) q.cel (by simp only[aB,aU,cG,cO,aw,aA,oB,sB ha,oM];rfl) q.cel (by refine yF (DR _) ?_;exact hl))) ?_;rfl
theorem lq{W n L a:Nat}{N:NL}{h:Hp}{nm:Nm}{nets:List Int}(q:aI h L N)(ha:h[a]? =DJ (.list (aa nets)))(hb:L+4<h.length)(hl:N.outputs.length<=1000):∃ h',ad P W (n+1) 5 [.ref (L+1),.str nm,.ref a] h=DJ (.none,h')/\aI h' L { N with outputs:=N.outputs++[(nm,nets)] }/\Kx L h h'/\h.length<=h'.length:=by
 have q2:=q.keep (ai.push h [.list (aa nets)]);refine af q2.outp fun vo e1 e2=>?_;have e3:(h++[AO.list (aa nets)])[L+3]? =DJ (.list vo):=e1;have q3:=q2.pushOut (p:=(nm,nets)) (a:=h.length) e1 hb au;refine⟨_,nL (fn:=dJ) rfl rfl ⟨[DJ (.ref (L+1)),DJ (.str nm),DJ (.ref a)],?_⟩,q3,(ai.push _ _).kx.trans (Kx.set (D5 _ _) (dm (nat_lit 11291939065280) tt)),by simp⟩;unfold dJ;generalize ad P W n=cl;have at1:=q.attr;refine af q.outp fun vo2 e4 e5=>?_;simp only[mN,mC,dR,dS,DY,Nat.reduceSub,As];refine bJ (jt (v:= .none) (cK (h1:=h) (h2:=h++[.list (aa nets)]) (a:=L+3) (v:= .tup [.str nm,.ref h.length]) (by simp only[aB,cV,oB,at1,oM]) e4 (by simp only[aB,aU,cG,cO,aw,aA,oB,jY ha,oM]) e1 (by rewrite[e2.1];exact hl))) ?_;rfl
noncomputable def fc(rep:Int->Option Int)(c:aj):aj:=⟨c.kind,c.out,c.ins.map (fin rep),c.param⟩
noncomputable def be(N:NL)(cells:List aj)(rep:Int->Option Int):NL:=
 ⟨N.name,N.count,N.inputs,N.outputs.map fun p=>(p.1,p.2.map (fin rep)),(cells.filter fun c=>(rep c.out).isNone).map (fc rep)⟩
structure gP(N:NL):Prop where
 ci:N.inputs.length<=20
 co:N.outputs.length<=20
 cc:N.cells.length<=20
 pi:∀ p∈N.inputs,p.2.length<=20
 po:∀ p∈N.outputs,p.2.length<=20
 ni:∀ c∈N.cells,c.ins.length<=20
theorem sC{n r M:Nat}{rep:Int->Option Int}{i:Nat}{l:List Int}{gd:Option (Nat × AO)}(hr:aY h r rep M)(hc:nZ rep)(e1:aC (ad P 1000 (n+1)) it m c h=DJ (x,h))(e2:bZ h false x=DJ (aa l,gd))(hg:av h gd=true)(hl:l.length<=100)(hm:m[i]? =DJ (DJ (.ref r))):
  aC (ad P 1000 (n+1)) (.comp 1 (.one 0) false it (.elt (.call 21 [(.free i),(.loc 0)]))) m c h=DJ (.ref h.length,h++[.list (aa (l.map (fin rep)))]):=by
 have:=eN (cl:=ad P 1000 (n+1)) (rng:=false) (it:=it) (e:= .call 21 [(.free i),(.loc 0)]) (m:=m) (c:=c) (h:=h) (h1:=h) l AV.int (fun a=> .int (fin rep a)) e1 e2 hg (DO hl (by decide)) (fun a ha=>by
  have f1:=mJ (n:=n) (x:=a) hr hc;have hm2:ek m i h=DJ (.ref r,h):=by (refine yB (nc _ _ _) ?_;refine yF hm ?_;rfl)
  simp only[qG,ej,aw,aA,oB,bx,hm2,f1])
 refine DK this ?_;unfold aa;refine yF map_map ?_;rfl
theorem f6{n L rc r M:Nat}{N:NL}{cells:List aj}{rep:Int->Option Int}{H:Hp}(q:aI H L N)(hs:gP N)(hcl:H[rc]? =DJ (.list (cells.map aj.v)))(hcn:cells.length<=100)(hci:∀ c∈cells,c.ins.length<=100)(hr:aY H r rep M)(hc:nZ rep):
  ∃ L' H',ad P 1000 (n+3) 22 [.ref (L+1),.ref rc,.ref r] H=DJ (.ref (L'+1),H')/\aI H' L' (be N cells rep)/\ai H H':=by
 obtain⟨v,H',e,L',rfl,q1,q2⟩:∃ v H',ad P 1000 (n+3) 22 [.ref (L+1),.ref rc,.ref r] H=DJ (v,H')/\∃ L',v= .ref (L'+1)/\aI H' L' (be N cells rep)/\ai H H':=by
  let Q0:AV->Hp->Prop:=fun v H'=>∃ L',v= .ref (L'+1)/\aI H' L' (be N cells rep)/\ai H H'
  refine bQ (Q:=Q0) (fn:=fY) rfl rfl ?_;unfold fY;have hinit:=xu (W:=1000) (n:=n+1) (nm:=N.name) (H:=H);have hdrive:=fun h N' out k a ins p=>q6 (W:=1000) (n:=n+1) (L:=H.length) (a:=a) (N:=N') (h:=h) (out:=out) (k:=k) (ins:=ins) (p:=p);have hout:=fun h N' nm a nets=>lq (W:=1000) (n:=n+1) (L:=H.length) (a:=a) (N:=N') (h:=h) (nm:=nm) (nets:=nets);have hcomp:=fun m c h it i l x gd=>sC (n:=n+1) (r:=r) (M:=M) (rep:=rep) (m:=m) (c:=c) (h:=h) (it:=it) (i:=i) (l:=l) (x:=x) (gd:=gd);simp only[FO,Nat.reduceAdd]at hinit hdrive hout hcomp;generalize ad P 1000 (n+2)=cl at *;simp only[mN,mC,dR,dS,DY,Ee,Nat.reduceSub,CH,Cc,zS,As];have at0:=q.attr;let B:List (Option AV):=[DJ (.ref (L+1)),DJ (.ref rc),DJ (.ref r),DJ (.ref (H.length+1))]
  refine ac (v:= .ref (H.length+1)) (m1:=B++[none,none,none,none,none,none]) (h1:=H++[.dict (iY H.length ⟨N.name,2,[],[],[]⟩),.inst H.length,.list [],.list [],.list []]) (uW (vs:=[.str N.name]) (h1:=H) (by simp only[aB,cV,aw,aA,oB,at0]) hinit) (by simp only[vY,yV,yW,oM]<;>rfl) ?_;have n0:=aI.new (H:=H) (nm:=N.name);have k0:ai H (H++[.dict (iY H.length ⟨N.name,2,[],[],[]⟩),.inst H.length,.list [],.list [],.list []]):=ai.push _ _;have l0:H.length+4<(H++[AO.dict (iY H.length ⟨N.name,2,[],[],[]⟩),AO.inst H.length,AO.list [],AO.list [],AO.list []]).length:=by simp
  generalize (H++[AO.dict (iY H.length ⟨N.name,2,[],[],[]⟩),AO.inst H.length,AO.list [],AO.list [],AO.list []])=h0 at *;refine am (n0.setCount N.count) fun s1 n1=>?_;have at1:=(q.keep k0).attr;refine fB (v:= .int N.count) (x:= .ref (H.length+1)) (h1:=h0) (h2:=h0) (by simp only[aB,cV,oB,B,dR,dS,at1]) rfl s1 ?_;have k1:ai H (h0.set H.length (.dict (iY H.length ⟨N.name,N.count,[],[],[]⟩))):=k0.set (DV _);have l1:H.length+4<(h0.set H.length (.dict (iY H.length ⟨N.name,N.count,[],[],[]⟩))).length:=by refine yF Fw ?_;exact l0
  simp only at n1;generalize (h0.set H.length (AO.dict (iY H.length ⟨N.name,N.count,[],[],[]⟩)))=h1 at *;clear n0 s1 k0 l0;have q1:=q.keep k1;refine af q.inp fun vi i1 i2=>?_;have at2:=q1.attr;let St1:Nat->aZ->Hp->Prop:=fun j m h=>(∃ x y,m=B++[x,y,none,none,none,none])/\aI h H.length ⟨N.name,N.count,N.inputs.take j,[],[]⟩/\ai H h/\H.length+4<h.length
  refine dM (x:= .ref (L+2)) (vs:=vi) (gd:=DJ (L+2,.list vi)) (h1:=h1) St1
   (by simp only[aB,cV,oB,B,dR,dS,at2]) (aF _ _ _ (k1 _ _ i1)) ⟨⟨none,none,rfl⟩,n1,k1,l1⟩ (fun j m h _ s=>by unfold av;simp[s.2.2.1 _ _ i1]) ?_ ?_
  ·intro j v m h hv z6;refine eQ z6 fun z190 a1 a2 a3=>?_;clear z6;refine eR z190 fun x y z252=>?_;clear z190;subst z252;have hj:=(gS.mp hv).1;rw[i2.1]at hj;refine aM (i2.2 j _ (gE hj)) fun a b1 b2 b3=>?_;have ht:N.inputs.take (j+1)=N.inputs.take j++[N.inputs[j]]:=by (refine DK E1 ?_;refine yF (gE hj) ?_);rfl
   generalize N.inputs[j]=p at *;rw[hv]at b2;revert hv;refine jR b2 ?_;intro hv;refine⟨B++[DJ (.str p.1),DJ (.ref a),none,none,none,none],rfl,?_⟩;have b4:=a2 _ _ b3;have a4:=a1.keep (ai.push h [.list (aa p.2)]);refine af a1.inp fun w w1 w2=>?_;have w1':=ai.push h [.list (aa p.2)] _ _ w1;have a5:=a4.pushIn (p:=p) (a:=h.length) w1' a3 au;have at3:=a1.attr;refine cZ (cK (h1:=h) (h2:=h++[.list (aa p.2)]) (a:=H.length+2) (v:= .tup [.str p.1,.ref h.length]) (by simp only[aB,aU,cV,oB,B,dR,dS,at3]) w1 (by simp only[aB,aU,cG,cO,aw,aA,oB,B,dR,dS,jY b4]) w1' (by (rewrite[w2.1];refine yF EG ?_);have:=hs.ci;exact bu (nat_lit 397707746519445816769) tt (EE _ _) this)) (aN ⟨by simp,⟨_,_,rfl⟩,?_,(a2.snoc _).set (D5 _ _),by simp;exact Eg a3⟩);refine yF ht ?_;exact a5
  ·intro m h z3;refine eQ z3 fun z100 a1 a2 a3=>?_;clear z3;refine eR z100 fun x y z162=>?_;clear z100;subst z162;have:N.inputs.take vi.length=N.inputs:=by (rewrite[i2.1];refine DK Ef ?_;rfl)
   rw[this]at a1;clear n1 k1 l1 q1 at2 i2 i1;have hcl2:=a2 _ _ hcl;let St2:Nat->aZ->Hp->Prop:=fun j m h=>(∃ x y x1 x2 x3 x4,m=B++[x,y,x1,x2,x3,x4])/\aI h H.length ⟨N.name,N.count,N.inputs,[],((cells.take j).filter fun (c:aj)=>(rep c.out).isNone).map (fc rep)⟩/\ai H h/\H.length+4<h.length
   refine dM (x:= .ref rc) (vs:=cells.map aj.v) (gd:=DJ (rc,.list (cells.map aj.v))) (h1:=h) St2
    rfl (aF _ _ _ hcl2) ⟨⟨x,y,none,none,none,none,rfl⟩,a1,a2,a3⟩ (fun j m h _ s=>by unfold av;simp[s.2.2.1 _ _ hcl]) ?_ ?_
   ·intro j v m h hv z6;refine eQ z6 fun z190 a1 a2 a3=>?_;clear z6;refine eT z190 fun x y x1 x2 z265=>?_;clear z190;refine eR z265 fun x3 x4 z322=>?_;clear z265;subst z322;have hj:=(gS.mp hv).1;rw[DR]at hj;rw[DX,gE hj]at hv;have ht:cells.take (j+1)=cells.take j++[cells[j]]:=by (refine DK E1 ?_;refine yF (gE hj) ?_);rfl
    have hcm:=hci _ (Ey hj);generalize cells[j]=c at *;simp only[oM,D7]at hv;subst hv;refine⟨B++[x,y,DJ (.str c.kind),DJ (.int c.out),DJ (.tup (aa c.ins)),DJ c.param],by unfold aj.v;simp only[sg,pg,hU,yV,yW,oB,oM,B,dR,dS],?_⟩;have hr2:=hr.keep a2;refine cg (c:=(rep c.out).isNone) (h1:=h) (by simp only[aB,aU,aK,cW,cq,sf,oB,oM,B,dR,dS,hr2.has];cases rep c.out<;>rfl) ?_ ?_
    ·intro hnone;have hcp:=hcomp (B++[x,y,DJ (.str c.kind),DJ (.int c.out),DJ (.tup (aa c.ins)),DJ c.param]) [] h (.loc 8) 2 c.ins (.tup (aa c.ins)) none hr2 hc rfl rfl rfl hcm rfl;have a4:=a1.keep (ai.push h [.list (aa (c.ins.map (fin rep)))]);have hd:=hdrive (h++[.list (aa (c.ins.map (fin rep)))]) _ c.out c.kind h.length (c.ins.map (fin rep)) c.param a4 au (by
      refine yF (DR _) ?_;have:=EI (fun c=>(rep c.out).isNone) (cells.take j);rw[EG]at this;exact bS (nat_lit 13032087437949180656114114) tt this (EE _ _) hcn)
     refine cZ (dA (a:=H.length+1) (h1:=h) (vs:=[.int c.out,.str c.kind,.ref h.length,c.param]) rfl a1.okI (by simp only[B,dR,dS]at hcp;simp only[aB,aU,aw,aA,oB,B,dR,dS,hcp]) hd) (bz ⟨by simp,⟨_,_,_,_,_,_,rfl⟩,?_,(a2.snoc _).set (D5 _ _),by simp;exact Eg a3⟩);have a5:=a4.pushCell (fc rep c);refine yF ht ?_;refine yF (FN _ _) ?_;refine yF Ez ?_;simp only[Gp,hnone,if_true,H7,mC,mN];exact a5
    ·intro hsome;refine bz ⟨by simp,⟨_,_,_,_,_,_,rfl⟩,?_,a2,a3⟩;refine yF ht ?_;refine yF (FN _ _) ?_;refine yF Ez ?_;simp only[Gp,hsome,fE,if_false,H7,mN,EC];exact a1
   ·intro m h z3;refine eQ z3 fun z100 a1 a2 a3=>?_;clear z3;refine eT z100 fun x y x1 x2 z175=>?_;clear z100;refine eR z175 fun x3 x4 z232=>?_;clear z175;subst z232;rw[DR,Ef]at a1;have q2:=q.keep a2;refine af q.outp fun vo o1 o2=>?_;have at2:=q2.attr;let St3:Nat->aZ->Hp->Prop:=fun j m h=>(∃ x y,m=B++[x,y,x1,x2,x3,x4])/\aI h H.length ⟨N.name,N.count,N.inputs,(N.outputs.take j).map fun (p:jv)=>(p.1,p.2.map (fin rep)),(cells.filter fun (c:aj)=>(rep c.out).isNone).map (fc rep)⟩/\ai H h/\H.length+4<h.length
    refine dM (x:= .ref (L+3)) (vs:=vo) (gd:=DJ (L+3,.list vo)) (h1:=h) St3
     (by simp only[aB,cV,oB,B,dR,dS,at2]) (aF _ _ _ (a2 _ _ o1)) ⟨⟨x,y,rfl⟩,a1,a2,a3⟩ (fun j m h _ s=>by unfold av;simp[s.2.2.1 _ _ o1]) ?_ ?_
    ·intro j v m h hv z6;refine eQ z6 fun z190 a1 a2 a3=>?_;clear z6;refine eR z190 fun x y z252=>?_;clear z190;subst z252;have hj:=(gS.mp hv).1;rw[o2.1]at hj;refine aM (o2.2 j _ (gE hj)) fun a b1 b2 b3=>?_;have ht:N.outputs.take (j+1)=N.outputs.take j++[N.outputs[j]]:=by (refine DK E1 ?_;refine yF (gE hj) ?_);rfl
     have hpl:=hs.po _ (Ey hj);generalize N.outputs[j]=p at *;rw[hv]at b2;cases b2;refine⟨B++[DJ (.str p.1),DJ (.ref a),x1,x2,x3,x4],rfl,?_⟩;have b4:=a2 _ _ b3;have hr2:=hr.keep a2;have hcp:=hcomp (B++[DJ (.str p.1),DJ (.ref a),x1,x2,x3,x4]) [] h (.loc 5) 2 p.2 (.ref a) _ hr2 hc rfl (aF _ _ _ b4) (by unfold av;simp[b4]) (DO hpl (by decide)) rfl;have a4:=a1.keep (ai.push h [.list (aa (p.2.map (fin rep)))]);refine fu (hout (h++[.list (aa (p.2.map (fin rep)))]) _ p.1 h.length (p.2.map (fin rep)) a4 au (by simp;exact Eg a3) (by (refine yF (DR _) ?_;refine yF EG ?_);have:=hs.co;exact bu (nat_lit 397707746519445816769) tt (EE _ _) this)) fun h' d1 d2 d3 d4=>?_;refine cZ (dA (a:=H.length+1) (h1:=h) (vs:=[.str p.1,.ref h.length]) rfl a1.okI (by simp only[B,dR,dS]at hcp;simp only[aB,aU,aw,aA,oB,B,dR,dS,hcp]) d1) (aN ⟨by simp,⟨_,_,rfl⟩,?_,d3.keep (a2.snoc _) (DV _),by simp at d4;exact bS (nat_lit 427077174518988681663235522) tt a3 d4⟩);refine yF ht ?_;refine yF Ez ?_;exact d2
    ·intro m h z3;refine eQ z3 fun z100 a1 a2 a3=>?_;clear z3;refine eR z100 fun x y z162=>?_;clear z100;subst z162;rw[o2.1,Ef]at a1;exact bK (v:= .ref (H.length+1)) (h1:=h) rfl (Ed ⟨_,rfl,H.length,rfl,a1,a2⟩)
 exact⟨L',H',e,q1,q2⟩
theorem v8{n L r M:Nat}{rep:Int->Option Int}(q:aI H L N)(hs:gP N)(hr:aY H r rep M)(hc:nZ rep):
  ∃ L' H',ad P 1000 (n+4) 23 [.ref (L+1),.ref r] H=DJ (.ref (L'+1),H')/\aI H' L' (be N N.cells rep)/\ai H H':=by
 refine aW (f6 (n:=n) q hs q.cel (DO hs.cc (by decide)) (fun c hc=>DO (hs.ni c hc) (by decide)) hr hc) fun L' H' e a b=>?_;refine⟨L',H',bE (fn:=mh) rfl rfl ⟨[DJ (.ref (L+1)),DJ (.ref r)],?_⟩,a,b⟩;unfold mh;generalize ad P 1000 (n+3)=cl at *;have at1:=q.attr;simp only[mN,mC,dR,dS,DY,Nat.reduceSub,t5];exact bM (cX (aJ (vs:=[.ref (L+1),.ref (L+4),.ref r]) (h1:=H) (by simp only[aB,aU,cV,aw,aA,oB,at1]) e))
noncomputable def cA(l:List aj)(i:Nat):aj:=l.getD i ⟨aP,0,[],.none⟩
theorem n3(h:l[i]? =DJ c):cA l i=c:=by unfold cA;refine DK Ei ?_;refine yF h ?_;rfl
theorem gQ(h:i<l.length):l[i]? =DJ (cA l i):=by unfold cA;refine yF Ei ?_;refine yF (gE h) ?_;rfl
theorem bL(h:i<l.length):cA l i∈l:=D8 (gQ h)
noncomputable def eP(l:List aj)(x:Int):Option Nat:=l.findIdx? fun c=>decide (c.out=x)
noncomputable def iG(l:List aj)(x:Int):Option Nat:=match eP l x with
 | some b=>if bh (cA l b).kind=true then none else DJ b
 | none=>none
noncomputable def pre(l:List aj)(i:Nat):List Nat:=(cA l i).ins.filterMap (iG l)
noncomputable def bj(l:List aj):List Nat:=(Ec l.length).filter fun i=> !bh (cA l i).kind
noncomputable def n6(pr:List Nat)(D:List Nat):Nat:=pr.countP fun b=>decide (b∉D)
theorem sD(pr:List Nat):n6 pr []=pr.length:=by unfold n6;rewrite[JX];intro a _;simp
theorem pO{pr D:List Nat}:n6 pr D=0↔∀ b∈pr,b∈D:=by
 unfold n6;rewrite[countP_eq_zero];constructor
 ·intro h b hb;have:=h b hb;simpa using this
 ·intro h b hb;simpa using h b hb
theorem pP{pr D:List Nat}{b:Nat}(hb:b∉D):n6 pr (D++[b])+pr.count b=n6 pr D:=by
 unfold n6;induction pr with
 | nil=>rfl
 | cons a l ih=>
  refine yF Iz ?_;refine yF Iz ?_;refine yF count_cons ?_;by_cases h:a=b
  ·subst h;have e1:decide (a∉D++[a])=false:=by simp
   have e2:decide (a∉D)=true:=by simp[hb]
   refine yF e1 ?_;refine yF e2 ?_;simp only[beq_self_eq_true,if_true,fE,if_false];exact Eo (bS (nat_lit 397186522276171661715775520) tt ih) (bS (nat_lit 396850489464768850144796737) tt ih)
  ·have e1:(a == b)=false:=by simpa using h
   have e2:decide (a∉D++[b])=decide (a∉D):=by simp[h]
   refine yF e1 ?_;refine yF e2 ?_;simp only[fE,if_false];exact Eo (kt (nat_lit 387274701580603750457408) tt ih) (kt (nat_lit 387545457532804428472418) tt ih)
theorem bn{α:Type}{l:List α}{t:Nat}{b:α}(h:l[t]? =DJ b):l.take (t+1)=l.take t++[b]:=by (refine DK E1 ?_;refine yF h ?_);rfl
theorem fC{l:List Nat}(h:l.Nodup){t b:Nat}(e:l[t]? =DJ b):b∉l.take t:=by
 intro hb;have hl:=(gS.mp e).1;have h2:(l.take t++l.drop t).Nodup:=by refine yF (FM _ _) ?_;exact h
 rw[Fa]at h2;exact h2.2.2 b hb b (by rewrite[mem_iff_getElem?];exact⟨0,by refine DK getElem?_drop ?_;exact e⟩) rfl
structure jw(l:List aj)(t:Nat)(R:List Nat)(w:Nat->Int):Prop where
 nd:R.Nodup
 sub:∀ i∈R,i∈bj l
 le:t<=R.length
 wt:∀ i∈bj l,w i=n6 (pre l i) (R.take t)
 iff:∀ i∈bj l,(i∈R↔n6 (pre l i) (R.take t)=0)
 top:∀ p i,R[p]? =DJ i->∀ b∈pre l i,b∈R.take p
noncomputable def t6(w:Nat->Int)(i:Nat)(v:Int):Nat->Int:=fun x=>if i=x then v else w x
structure pt(l:List aj)(t:Nat)(R:List Nat)(w:Nat->Int)(b:Nat)(qs:List Nat)(R':List Nat)(w':Nat->Int):Prop where
 nd:R'.Nodup
 sub:∀ i∈R',i∈bj l
 ex:∃ E,R'=R++E
 wt:∀ i∈bj l,w' i=w i - qs.count i
 iff:∀ i∈bj l,(i∈R'↔w' i=0)
theorem jw.mid{t:Nat}{R:List Nat}{w:Nat->Int}(k:jw l t R w)(b:Nat):pt l t R w b [] R w:=
 ⟨k.nd,k.sub,⟨[],by simp⟩,fun i hi=>by simp,fun i hi=>by (refine yF (k.wt i hi) ?_;rewrite[k.iff i hi]);exact Iff.symm Int.ofNat_eq_zero⟩
theorem pt.step{l:List aj}{t:Nat}{R R':List Nat}{w w':Nat->Int}{b i:Nat}{qs qt:List Nat}(k:jw l t R w)(hb:R[t]? =DJ b)(m:pt l t R w b qs R' w')(hi:i∈bj l)(hc2:(qs++i::qt).count i<=(pre l i).count b):
  pt l t R w b (qs++[i]) (if w' i - 1=0 then R'++[i] else R') (t6 w' i (w' i - 1)):=by
 have h1:w' i≥1:=by
  have a:=m.wt i hi;have b1:=k.wt i hi;have c1:=pP (pr:=pre l i) (fC k.nd hb);rw[H9,count_cons_self]at hc2;lia
 have hn:i∉R':=fun q=>by have:=(m.iff i hi).mp q;lia
 refine⟨?_,?_,?_,?_,?_⟩
 ·split
  ·rewrite[Fa];refine⟨m.nd,by simp,fun a ha c hc e=> ?_⟩;rw[DT]at hc;subst hc e;exact hn ha
  ·exact m.nd
 ·intro x hx;split at hx
  ·rw[DZ,DT]at hx;rcases hx with hx | rfl
   ·exact m.sub x hx
   ·exact hi
  ·exact m.sub x hx
 ·refine aq m.ex fun E hE=>?_;split
  ·exact⟨E++[i],by (refine yF hE ?_;refine DK (D1 _ _ _) ?_;rfl)⟩
  ·exact⟨E,hE⟩
 ·intro x hx;have:=m.wt x hx;unfold t6;refine yF H9 ?_;refine yF Ko ?_;by_cases q:i=x
  ·subst q;simp;lia
  ·have:(i == x)=false:=by simpa using q
   simp[q];assumption
 ·intro x hx;have:=m.iff x hx;unfold t6;by_cases q:i=x
  ·subst q;simp only[if_true];split
   ·rename_i e;simp[e]
   ·rename_i e;constructor
    ·intro h;exact absurd h hn
    ·intro h;exact absurd h e
  ·simp only[q,if_false];split
   ·rewrite[DZ];rewrite[DT];rewrite[<- this];constructor
    ·rintro (h | h)
     ·exact h
     ·exact absurd h.symm q
    ·exact Ed
   ·exact this
theorem pt.done{l:List aj}{t:Nat}{R R':List Nat}{w w':Nat->Int}{b:Nat}{qs:List Nat}(k:jw l t R w)(hb:R[t]? =DJ b)(m:pt l t R w b qs R' w')(hc:∀ i∈bj l,qs.count i=(pre l i).count b):jw l (t+1) R' w':=by
 have ht:=(gS.mp hb).1;refine aq m.ex fun E z2=>?_;subst z2;have htk:(R++E).take (t+1)=R.take t++[b]:=by refine DK (HP (by with_unfolding_all exact bu (nat_lit 11038651067424) tt ht)) ?_;exact bn hb
 have hw:∀ i∈bj l,w' i=n6 (pre l i) ((R++E).take (t+1)):=by
  intro i hi;refine yF htk ?_;refine DK (m.wt i hi) ?_;refine yF (k.wt i hi) ?_;refine yF (hc i hi) ?_;have:=pP (pr:=pre l i) (fC k.nd hb);lia
 refine⟨m.nd,m.sub,by refine yF DU ?_;exact bS (nat_lit 11542716603182112) tt ht,hw,fun i hi=>by (rewrite[m.iff i hi];refine yF (hw i hi) ?_);exact Hq,?_⟩;intro p i hp b' hb';by_cases hpl:p<R.length
 ·rw[Eh hpl]at hp;refine yF (HP (EK hpl)) ?_;exact k.top p i hp b' hb'
 ·have hi:i∈R++E:=D8 hp;have hi2:=m.sub i hi;have h0:=(m.iff i hi2).mp hi;rw[hw i hi2]at h0;have h1:=pO.mp (by exact FP.mp (by assumption):n6 (pre l i) ((R++E).take (t+1))=0) b' hb';have h2:(R++E).take (t+1)=((R++E).take p).take (t+1):=by refine yF take_take ?_;congr 1;lia
  rw[h2]at h1;exact FC h1
structure cP(l:List aj)(R:List Nat):Prop where
 nd:R.Nodup
 mem:∀ i,i∈R↔i∈bj l
 top:∀ p i,R[p]? =DJ i->∀ b∈pre l i,b∈R.take p
set_option tactic.hygienic true in
theorem sE(h:b∈pre l i):b∈bj l:=by
 unfold pre at h;rw[Hv]at h;refine af h fun x uu e=>?_;clear h;unfold iG at e;split at e
 ·rename_i b' hb;split at e
  ·exact nO e
  ·rename_i hs;refine jA e ?_;unfold bj;rewrite[E5];rewrite[E7];unfold eP at hb;rw[Gf]at hb;exact⟨hb.1,by simpa using hs⟩
 ·exact nO e
theorem jw.order{R:List Nat}{w:Nat->Int}{t:Nat}(k:jw l t R w)(ht:t=R.length)(rk:Nat->Nat)(hr:∀ i∈bj l,∀ b∈pre l i,rk b<rk i):cP l R:=by
 subst ht;have key:∀ n i,rk i<n->i∈bj l->i∈R:=by
  intro n;induction n with
  | zero=>intro i h;norm_cast
  | succ n ih=>
   intro i h hi;rewrite[k.iff i hi];refine yF Ef ?_;rewrite[pO];intro b hb;have:=hr i hi b hb;exact ih b (bS (nat_lit 397454830840887330) tt this h) (sE hb)
 exact⟨k.nd,fun i=>⟨k.sub i,fun h=>key (rk i+1) i (EA _) h⟩,k.top⟩
theorem sF(l:List aj):(bj l).Nodup:=Hl _ IB
theorem cP.len(o:cP l R):R.length=(bj l).length:=((List.perm_ext_iff_of_nodup o.nd (sF l)).mpr o.mem).length_eq
theorem jw.lens{R:List Nat}{w:Nat->Int}{t:Nat}(k:jw l t R w):R.length<=l.length:=by
 have h1:R.length<=(bj l).length:=Gi k.nd k.sub;have h2:=EI (fun i=> !bh (cA l i).kind) (Ec l.length);rw[E8]at h2;exact DO h1 h2
theorem pt.lens{R R':List Nat}{w w':Nat->Int}{t b:Nat}{qs:List Nat}(k:pt l t R w b qs R' w'):R'.length<=l.length:=by
 have h1:R'.length<=(bj l).length:=Gi k.nd k.sub;have h2:=EI (fun i=> !bh (cA l i).kind) (Ec l.length);rw[E8]at h2;exact DO h1 h2
noncomputable def gR(l:List aj)(n:Nat):List Nat:=(Ec n).filter fun i=> !bh (cA l i).kind&&decide ((pre l i).length=0)
theorem jw.init(l:List aj):jw l 0 (gR l l.length) (fun i=>((pre l i).length:Nat)):=by
 refine⟨Hl _ IB,?_,Gz _,?_,?_,?_⟩
 ·intro i hi;unfold gR at hi;unfold bj;rw[E5]at hi ⊢;exact⟨hi.1,by simp at hi;simp[hi.2.1]⟩
 ·intro i hi;dsimp only[IR];refine yF (sD _) ?_;rfl
 ·intro i hi;dsimp only[IR];refine yF (sD _) ?_;unfold gR;unfold bj at hi;rw[E5]at hi ⊢;constructor
  ·intro z1;refine am z1 fun uu h=>?_;clear z1;simp at h;simp[h.2]
  ·intro h;exact⟨hi.1,by (refine yF hi.2 ?_;refine yF h ?_);rfl⟩
 ·intro p i hp b hb;have hm:=D8 hp;unfold gR at hm;rw[E5]at hm;have h2:(pre l i).length=0:=by simpa using (GD.mp hm.2).2
  rw[Gb]at h2;rw[h2]at hb;exact absurd hb (by simp)
noncomputable def bI(l:List aj)(n b:Nat):List Nat:=(Ec n).flatMap fun i=>if bh (cA l i).kind=true then [] else D0 ((pre l i).count b) i
theorem jx(l:List aj)(n b:Nat):bI l (n+1) b=bI l n b++(if bh (cA l n).kind=true then [] else D0 ((pre l n).count b) n):=by
 unfold bI;refine yF Gr ?_;refine yF FR ?_;simp
theorem lr(l:List aj)(b i:Nat):∀ n,(bI l n b).count i=if i<n/\bh (cA l i).kind=false then (pre l i).count b else 0:=by
 intro n;induction n with
 | zero=>simp[bI]
 | succ n ih=>
  refine yF (jx _ _ _) ?_;refine DK H9 ?_;refine yF ih ?_;by_cases q:i=n
  ·subst q;cases bh (cA l i).kind<;>simp[Kp]
  ·have hni:(n == i)=false:=by simpa using fun e=>q e.symm
   have e:∀ k,(D0 k n).count i=0:=fun k=>by refine DK Kp ?_;simp[hni]
   have:(i<n+1)↔i<n:=Bm (Hs q);have e2:NG i (if bh (cA l n).kind=true then [] else D0 (NG b (pre l n)) n)=0:=by split<;>simp[e]
   simp only[this,e2,JH]
theorem mK(l:List aj)(b:Nat):∀ i∈bj l,(bI l l.length b).count i=(pre l i).count b:=by
 intro i hi;unfold bj at hi;rw[E5,E7]at hi;rewrite[lr];refine DK (if_pos ⟨hi.1,by simpa using hi.2⟩) ?_;rfl
theorem t7(l:List aj)(b:Nat):∀ i∈bI l l.length b,i∈bj l:=by
 intro i hi;have:=lr l b i l.length;have h:=count_pos_iff.mpr hi;rw[this]at h;split at h
 ·rename_i q;unfold bj;rewrite[E5];rewrite[E7];exact⟨q.1,by simp[q.2]⟩
 ·exact absurd h (by decide)
noncomputable def dB(H:Hp)(r:Nat)(S:List Int)(n:Nat):Prop:=∃ es,H[r]? =DJ (.dict es)/\es.length<=n/\∀ x:Int,(br es (.int x)).isSome=decide (x∈S)
theorem dB.has{r:Nat}{S:List Int}{n:Nat}(d:dB H r S n)(x:Int):bc H (.int x) (.ref r)=DJ (decide (x∈S)):=by
 refine aM d fun es a b c=>?_;clear d;simp only[vL,a,ml,if_true,c]
theorem dB.lt{H:Hp}{r:Nat}{S:List Int}{n:Nat}(d:dB H r S n):r<H.length:=by
 refine af d fun es a uu=>?_;clear d;exact (gS.mp a).1
theorem aY.lt{H:Hp}{r:Nat}{f:Int->Option Int}{n:Nat}(d:aY H r f n):r<H.length:=by
 refine af d fun es a uu=>?_;clear d;exact (gS.mp a).1
theorem dB.put{H:Hp}{r:Nat}{S:List Int}{n:Nat}(d:dB H r S n)(x:Int)(v:AV)(hn:n<1000):∃ o,dq H (.ref r) (.int x) v=DJ (H.set r o)/\dB (H.set r o) r (S++[x]) (n+1):=by
 refine aM d fun es a b c=>?_;clear d;refine⟨.dict (dz es (.int x) v),?_,dz es (.int x) v,bH _ _ _ (gS.mp a).1,by have:=ju es (.int x) v;exact bS (nat_lit 12121169318278674262050) tt this b,?_⟩
 ·simp only[sh,a,ml];refine DK (if_pos ⟨trivial,Ek b (aV (EK hn))⟩) ?_;rfl
 ·intro z;rewrite[eI];by_cases q:x=z
  ·subst q;simp
  ·have:¬ AV.int x=AV.int z:=fun e=>q (by injection e);have q2:¬ z=x:=fun e=>q e.symm;simp only[this,if_false,c,DZ,DT,q2,or_false]
theorem dB.other{r r2:Nat}{S:List Int}{n:Nat}(d:dB H r S n)(h:r2≠r):dB (H.set r2 o) r S n:=by
 refine aM d fun es a b c=>?_;clear d;exact⟨es,by refine yF (gN h) ?_;exact a,b,c⟩
theorem dB.keep{r:Nat}{S:List Int}{n:Nat}(k:ai H H')(d:dB H r S n):dB H' r S n:=by
 refine aM d fun es a b c=>?_;clear d;exact⟨es,k _ _ a,b,c⟩
theorem dB.mono{r:Nat}{S:List Int}{n n':Nat}(d:dB H r S n)(h:n<=n'):dB H r S n':=by
 refine aM d fun es a b c=>?_;clear d;exact⟨es,a,DO b h,c⟩
theorem aY.mono{r:Nat}{f:Int->Option Int}{n n':Nat}(d:aY H r f n)(h:n<=n'):aY H r f n':=by
 refine aM d fun es a b c=>?_;clear d;exact⟨es,a,DO b h,c⟩
theorem jh:ad P W (n+1) 1 [.str k] H=DJ (.bool (bh k),H):=by
 refine bE (fn:=fU) rfl rfl ⟨[DJ (.str k)],?_⟩;unfold fU bh;generalize ad P W n=cl;simp only[mN,mC,dR,dS,DY,Nat.reduceSub,xn,xp];refine bM (cX ?_);simp only[bd,aB,aK,cq,bt,bG,oB,w6,wY,wZ];cases decide (k=ft)<;>rfl
theorem gT{L:Nat}(q:aI h L N){j:Nat}(hj:j<N.cells.length):fS h (.ref (L+4)) (.int j)=DJ (cA N.cells j).v:=by
 simp only[kG,q.cel,iF,DX,gQ hj,oM]
theorem er{a j:Nat}(e:h[a]? =DJ (.list vs)):fS h (.ref a) (.int j)=vs[j]? :=by simp only[kG,e,iF]
theorem pu{W n L:Nat}{N:NL}{H:Hp}(q:aI H L N)(hs:gP N):∃ T,ad P W (n+2) 9 [.ref (L+1)] H=DJ (.ref H.length,H++[.list T])/\T.length+(bj N.cells).length=N.cells.length:=by
 obtain⟨v,H',e,T,rfl,rfl,hT⟩:∃ v H',ad P W (n+2) 9 [.ref (L+1)] H=DJ (v,H')/\∃ T,v= .ref H.length/\H'=H++[.list T]/\T.length+(bj N.cells).length=N.cells.length:=by
  let Q0:AV->Hp->Prop:=fun v H'=>∃ T,v= .ref H.length/\H'=H++[.list T]/\T.length+(bj N.cells).length=N.cells.length
  refine bQ (Q:=Q0) (fn:=ii) rfl rfl ?_;unfold ii;have hk:=fun k H=>jh (W:=W) (n:=n) (k:=k) (H:=H);generalize ad P W (n+1)=cl at *;simp only[mN,mC,dR,dS,DY,Ee,Nat.reduceSub,t5];refine ac (v:= .ref H.length) (h1:=H++[.list []]) (m1:=[DJ (.ref (L+1)),DJ (.ref H.length),none]) rfl rfl ?_;have q0:=q.keep (ai.push H [.list []]);have at0:=q0.attr;have hb:=dc q0.cel;let St1:Nat->aZ->Hp->Prop:=fun j m h=>∃ x T,m=[DJ (.ref (L+1)),DJ (.ref H.length),x]/\h=H++[.list T]/\T.length+((Ec j).filter fun i=> !bh (cA N.cells i).kind).length=j
  refine da (n:=N.cells.length) (h1:=H++[.list []]) St1 (by simp only[aB,cV,cO,aw,aA,oB,at0,hb,DR]) (by have:=hs.cc;exact DO this (by decide)) ⟨none,[],rfl,rfl,rfl⟩ ?_ ?_
  ·intro j m h hj z5;refine aW z5 fun x T z162 z163 hT=>?_;clear z5;subst z162;subst z163;refine⟨[DJ (.ref (L+1)),DJ (.ref H.length),DJ (.int j)],rfl,?_⟩;have q1:=q.keep (ai.push H [.list T]);have at1:=q1.attr;have c1:=gT q1 hj;have hr:((Ec (j+1)).filter fun i=> !bh (cA N.cells i).kind).length=((Ec j).filter fun i=> !bh (cA N.cells i).kind).length+(if bh (cA N.cells j).kind then 0 else 1):=by
    refine yF Gr ?_;refine yF (FN _ _) ?_;refine yF DU ?_;congr 1;cases e:bh (cA N.cells j).kind<;>simp[e]
   refine cg (c:=bh (cA N.cells j).kind) (h1:=H++[.list T]) (by simp only[bd,aB,aU,cV,bD,ej,aw,aA,cW,cq,cQ,iW,oB,at1,c1,aj.v,hk]) ?_ ?_
   ·intro e;refine cZ (cK (a:=H.length) (vs:=T) (h1:=H++[.list T]) (h2:=H++[.list T]) (v:= .int j) rfl au rfl au (by have:=hs.cc;exact kt (nat_lit 13344857538810521474441037251) tt hT hj this)) (bz ⟨by simp,_,T++[.int j],rfl,by refine DK sA ?_;rfl,?_⟩);refine yF hr ?_;refine yF e ?_;refine yF DU ?_;simp;exact Eo (bS (nat_lit 387877462904254446510112) tt hT) (bS (nat_lit 387317690240370245378113) tt hT)
   ·intro e;refine bz ⟨by simp,_,T,rfl,rfl,?_⟩;refine yF hr ?_;refine yF e ?_;simp;exact Eo (bS (nat_lit 387877463160323617923104) tt hT) (bS (nat_lit 387549305865606282616897) tt hT)
  ·intro m h z3;refine aW z3 fun x T z102 z103 hT=>?_;clear z3;subst z102;subst z103;exact bK (v:= .ref H.length) (h1:=H++[.list T]) rfl (Ed ⟨_,rfl,T,rfl,rfl,hT⟩)
 exact⟨T,e,hT⟩
noncomputable def ar(ps:List jv):List Int:=ps.flatMap fun p=>p.2
noncomputable def bq(N:NL):List Int:=[0,1]++ar N.inputs
noncomputable def outs(N:NL):List Int:=N.cells.map (·.out)
noncomputable def iH(l:List aj)(x:Int):Option Int:=(eP l x).map fun (i:Nat)=>(i:Int)
theorem wa(h:c.out∉l.map (·.out)):iH (l++[c])=upd (iH l) c.out l.length:=by
 funext z
 unfold iH eP upd;refine yF findIdx?_append ?_;by_cases q:c.out=z
 ·subst q;have:l.findIdx? (fun d=>decide (d.out=c.out))=none:=by
   rewrite[IC];intro d hd;rewrite[decide_eq_false_iff_not];intro e;exact h (Es.mpr ⟨d,hd,e⟩)
  refine yF this ?_;simp
 ·refine yF (if_neg q) ?_;congr 1;simp[q]
theorem iI{l:List Int}(h:l.Nodup){p q:List Int}{x:Int}(e:l=p++x::q):x∉p:=by
 subst e;rw[Fa]at h;intro hx;exact h.2.2 x hx x (by simp) rfl
theorem pQ{W n L:Nat}{N:NL}{H:Hp}(q:aI H L N)(hs:gP N)(hu:(bq N++outs N).Nodup):∃ r H',ad P W (n+1) 10 [.ref (L+1)] H=DJ (.ref r,H')/\ai H H'/\aY H' r (iH N.cells) 20:=by
 obtain⟨v,H',e,r,rfl,kp,hd⟩:∃ v H',ad P W (n+1) 10 [.ref (L+1)] H=DJ (v,H')/\∃ r,v= .ref r/\ai H H'/\aY H' r (iH N.cells) 20:=by
  let Q0:AV->Hp->Prop:=fun v H'=>∃ r,v= .ref r/\ai H H'/\aY H' r (iH N.cells) 20
  refine bQ (Q:=Q0) (fn:=ma) rfl rfl ?_;unfold ma;generalize ad P W n=cl at *;simp only[mN,mC,dR,dS,DY,Ee,Nat.reduceSub,zS,t5];obtain⟨d0,d1,d2⟩:∃ o,aC cl (.dict [(.const (.int 0)),(.const (.bool true)),(.const (.int 1)),(.const (.bool true))]) [DJ (.ref (L+1)),none,none,none,none,none,none] [] H=DJ (.ref H.length,H++[o])/\dB (H++[o]) H.length [0,1] 2:=by
   refine⟨.dict [(.int 0,.bool true),(.int 1,.bool true)],rfl,_,au,by simp,fun x=> ?_⟩;rewrite[dC,dC,wS];by_cases h0:(0:Int)=x
   ·subst h0;simp
   ·by_cases h1:(1:Int)=x
    ·subst h1;simp
    ·have h0':¬ x=0:=fun e=>h0 e.symm;have h1':¬ x=1:=fun e=>h1 e.symm;simp[h0,h1,h0',h1']
  refine ac (m1:=[DJ (.ref (L+1)),DJ (.ref H.length),none,none,none,none,none]) d1 rfl ?_;have k0:ai H (H++[d0]):=ai.push _ _;generalize H++[d0]=h0 at *;have q0:=q.keep k0;have at0:=q0.attr;refine af q.inp fun vi i1 i2=>?_;let St2:Nat->aZ->Hp->Prop:=fun j m h=>(∃ x y z,m=[DJ (.ref (L+1)),DJ (.ref H.length),x,y,z,none,none])/\ai H h/\dB h H.length ([0,1]++ar (N.inputs.take j)) (2+20 * j)
  refine dM (x:= .ref (L+2)) (vs:=vi) (gd:=DJ (L+2,.list vi)) (h1:=h0) St2
   (by simp only[aB,cV,oB,at0]) (aF _ _ _ (k0 _ _ i1)) ⟨⟨none,none,none,rfl⟩,k0,d2⟩ (fun j m h _ s=>by unfold av;simp[s.2.1 _ _ i1]) ?_ ?_
  ·intro j v m h hv z6;refine bY z6 fun z190 a1 a2=>?_;clear z6;refine qB z190 fun x y z z253=>?_;clear z190;subst z253;have hj:=(gS.mp hv).1;rw[i2.1]at hj;have hjl:j<20:=Ea hj hs.ci;refine aM (i2.2 j _ (gE hj)) fun a b1 b2 b3=>?_;have ht:N.inputs.take (j+1)=N.inputs.take j++[N.inputs[j]]:=by (refine DK E1 ?_;refine yF (gE hj) ?_);rfl
   have hpl:=hs.pi _ (Ey hj);have hdr:ar N.inputs=ar (N.inputs.take j)++(N.inputs[j].2++ar (N.inputs.drop (j+1))):=by
    have:N.inputs=N.inputs.take j++(N.inputs[j]::N.inputs.drop (j+1)):=by (refine yB (EO hj) ?_;refine yF (FM _ _) ?_;rfl)
    conv=>lhs;rw[this]
    unfold ar;refine DK FR ?_;refine yF Fo ?_;rfl
   generalize N.inputs[j]=p at *;rw[hv]at b2;refine jR b2 ?_;refine⟨[DJ (.ref (L+1)),DJ (.ref H.length),DJ (.str p.1),DJ (.ref a),z,none,none],rfl,?_⟩;have b4:=a1 _ _ b3;let St3:Nat->aZ->Hp->Prop:=fun i m h=>(∃ z,m=[DJ (.ref (L+1)),DJ (.ref H.length),DJ (.str p.1),DJ (.ref a),z,none,none])/\ai H h/\dB h H.length ([0,1]++ar (N.inputs.take j)++p.2.take i) (2+20 * j+i)
   refine dM (x:= .ref a) (vs:=aa p.2) (gd:=DJ (a,.list (aa p.2))) (h1:=h) St3
    rfl (aF _ _ _ b4) ⟨⟨_,rfl⟩,a1,by simpa using a2⟩ (fun j m h _ s=>by unfold av;simp[s.2.1 _ _ b3]) ?_ ?_
   ·intro i v m h hi z6;refine bY z6 fun z190 a1 a2=>?_;clear z6;refine aq z190 fun z z251=>?_;clear z190;subst z251;have hil:=(gS.mp hi).1;rw[DR]at hil;rw[DX,gE hil]at hi;have hti:p.2.take (i+1)=p.2.take i++[p.2[i]]:=by (refine DK E1 ?_;refine yF (gE hil) ?_);rfl
    have hpd:p.2=p.2.take i++(p.2[i]::p.2.drop (i+1)):=by (refine yB (EO hil) ?_;refine yF (FM _ _) ?_;rfl)
    generalize p.2[i]=x at *;simp only[oM,D7]at hi;subst hi;have hx:x∉[0,1]++ar (N.inputs.take j)++p.2.take i:=iI hu (q:=p.2.drop (i+1)++ar (N.inputs.drop (j+1))++outs N) (by
     unfold bq;refine yF hdr ?_;conv=>lhs;rw[hpd]
     simp only[D1,dS])
    refine⟨[DJ (.ref (L+1)),DJ (.ref H.length),DJ (.str p.1),DJ (.ref a),DJ (.int x),none,none],rfl,?_⟩;refine fH (h1:=h) (by simp only[aB,aU,aK,cW,cq,kF,oB,decide_false,a2.has,hx,decide_false]) ?_;refine af (a2.put x (.bool true) (bS (nat_lit 18485892461223383375687842045541463767855159147102700851758) tt hil hpl (ES 20 (JI hjl)))) fun o o1 o2=>?_;refine bk (v:= .bool true) (x:= .ref H.length) (y:= .int x) (h1:=h) (h2:=h) (h3:=h) rfl rfl rfl o1 (aN ⟨by simp,⟨_,rfl⟩,a1.set (DV _),?_⟩);refine yF hti ?_;refine yB (D1 _ _ _) ?_;exact o2
   ·intro m h z3;refine bY z3 fun z100 a1 a2=>?_;clear z3;refine aq z100 fun z z161=>?_;clear z100;subst z161;refine aN ⟨by simp,⟨_,_,_,rfl⟩,a1,?_⟩;rw[DR,Ef]at a2;refine yF ht ?_;unfold ar at *;refine yF FR ?_;refine yF Fo ?_;refine yF G2 ?_;refine yF (EC _) ?_;refine yB (D1 _ _ _) ?_;exact a2.mono (bu (nat_lit 13963895038702495652725568392323645720001) tt hpl)
  ·intro m h z3;refine bY z3 fun z100 a1 a2=>?_;clear z3;refine qB z100 fun x y z z163=>?_;clear z100;subst z163;rw[i2.1,Ef]at a2;have a2:=a2.mono (n':=410) (by have:=hs.ci;exact dm (nat_lit 460973991580931880902208704595960549934) tt (ES 20 this));have hlt:=a2.lt;refine ac (v:= .ref h.length) (h1:=h++[.dict []]) (m1:=[DJ (.ref (L+1)),DJ (.ref H.length),x,y,z,DJ (.ref h.length),none]) rfl rfl ?_;have a3:=a2.keep (ai.push h [.dict []]);have a4:=aY.new (H:=h);have a5:=a1.snoc [.dict []];generalize hr:h.length=r at *;generalize h++[AO.dict []]=h1 at *;have q1:=q.keep a5;have at1:=q1.attr;have hb:=dc q1.cel;let St4:Nat->aZ->Hp->Prop:=fun j m h=>(∃ z w,m=[DJ (.ref (L+1)),DJ (.ref H.length),x,y,z,DJ (.ref r),w])/\ai H h/\dB h H.length (bq N++(outs N).take j) (410+j)/\aY h r (iH (N.cells.take j)) j
   refine da (n:=N.cells.length) (h1:=h1) St4 (by simp only[aB,cV,cO,aw,aA,oB,at1,hb,DR]) (by have:=hs.cc;exact DO this (by decide)) ⟨⟨_,_,rfl⟩,a5,by (dsimp only[IR];refine yF (EC _) ?_);exact a3,a4⟩ ?_ ?_
   ·intro j m h hj z5;refine eQ z5 fun z160 a1 a2 a3=>?_;clear z5;refine eR z160 fun z w z222=>?_;clear z160;subst z222;have hjl:j<20:=Ea hj hs.cc;refine⟨[DJ (.ref (L+1)),DJ (.ref H.length),x,y,z,DJ (.ref r),DJ (.int j)],rfl,?_⟩;have q2:=q.keep a1;have at2:=q2.attr;have c1:=gT q2 hj;refine ac (v:= .int (cA N.cells j).out) (h1:=h) (m1:=[DJ (.ref (L+1)),DJ (.ref H.length),x,y,DJ (.int (cA N.cells j).out),DJ (.ref r),DJ (.int j)]) (by simp only[bd,aB,aU,cV,bD,cQ,nK,oB,at2,c1,aj.v]) rfl ?_;have ho:(outs N)[j]? =DJ (cA N.cells j).out:=by unfold outs;rewrite[DX];refine yF (gQ hj) ?_;rfl
    have hx:(cA N.cells j).out∉bq N++(outs N).take j:=iI hu (q:=(outs N).drop (j+1)) (by
     have hjo:=(gS.mp ho).1;have e1:(outs N)[j]=(cA N.cells j).out:=by rw[gE hjo]at ho;exact EU ho
     (rewrite[D1,<- e1,<- EO hjo,FM];rfl))
    refine fH (h1:=h) (by simp only[aB,aU,aK,cW,cq,kF,oB,decide_false,a2.has,hx,decide_false]) ?_;refine af (a2.put (cA N.cells j).out (.bool true) (dm (nat_lit 445031672982579304875456) tt hjl)) fun o o1 o2=>?_;refine bk (v:= .bool true) (x:= .ref H.length) (y:= .int (cA N.cells j).out) (h1:=h) (h2:=h) (h3:=h) rfl rfl rfl o1 ?_;have a3':=a3.other (r2:=H.length) (o:=o) (D4 hlt);refine af (a3'.put (cA N.cells j).out j (Ea hjl (by decide))) fun o' p1 p2=>?_;refine bk (v:= .int j) (x:= .ref r) (y:= .int (cA N.cells j).out) (h1:=h.set H.length o) (h2:=h.set H.length o) (h3:=h.set H.length o) rfl rfl rfl p1 (aN ⟨by simp,⟨_,_,rfl⟩,(a1.set (DV _)).set (EK hlt),?_,?_⟩)
    ·refine yF (bn ho) ?_;refine yB (D1 _ _ _) ?_;exact o2.other (Ep hlt)
    ·refine yF (bn (gQ hj)) ?_;rewrite[wa];refine yF EG ?_;refine yF (Ij (EK hj)) ?_
     ·exact p2
     ·intro hc;rw[Ng]at hc;exact hx (Fj _ hc)
   ·intro m h z3;refine eQ z3 fun z100 a1 a2 a3=>?_;clear z3;refine eR z100 fun z w z162=>?_;clear z100;subst z162;rw[Ef]at a3;exact bK (v:= .ref r) (h1:=h) rfl (Ed ⟨_,rfl,r,rfl,a1,a3.mono hs.cc⟩)
 exact⟨r,H',e,kp,hd⟩
theorem yY{Q:Fl->aZ->Hp->Prop}(q:Q .cont m h):Ok (cF cl W (.cont::ss) m h) Q:=by
 refine⟨.cont,m,h,?_,q⟩;rfl
theorem pR(e1:aC cl a m [] h=DJ (.bool false,h)):f9 cl (.bop true [a,b]) m h=DJ (false,h):=by
 exact bs (bs e1 rfl) rfl
noncomputable def wb(U:Nat->List Nat)(b:Nat)(v:List Nat):Nat->List Nat:=fun x=>if b=x then v else U x
noncomputable def dr(h:Hp)(u lo:Nat)(U:Nat->List Nat)(n:Nat):Prop:=∃ es,h[u]? =DJ (.dict es)/\es.length<=n/\(∀ b,(U b).length<=n)/\(∀ b:Nat,(br es (.int b)=none/\U b=[])\/∃ a,br es (.int b)=DJ (.ref a)/\lo<a/\h[a]? =DJ (.list (az (U b))))/\(∀ (b b' a:Nat),br es (.int b)=DJ (.ref a)->br es (.int b')=DJ (.ref a)->b=b')
theorem dr.frame{u lo n:Nat}{U:Nat->List Nat}(q:dr h u lo U n)(k:∀ k o,(k=u\/lo<k)->h[k]? =DJ o->h'[k]? =DJ o):dr h' u lo U n:=by
 refine kZ q fun es a b c d e=>?_;clear q;refine⟨es,k _ _ (Ed rfl) a,b,c,fun x=> ?_,e⟩;rcases d x with d | ⟨y,d1,d2,d3⟩
 ·exact Ed d
 ·exact Ew ⟨y,d1,d2,k _ _ (Ew d2) d3⟩
theorem dr.mono{u lo n n':Nat}{U:Nat->List Nat}(q:dr h u lo U n)(k:n<=n'):dr h u lo U n':=by
 refine kZ q fun es a b c d e=>?_;clear q;exact⟨es,a,DO b k,fun x=>DO (c x) k,d,e⟩
theorem t8{W:Nat}{Q:Fl->aZ->Hp->Prop}{u lo n b i:Nat}{U:Nat->List Nat}(q:dr h u lo U n)(hn:n<1000)(hu:u<=lo)(hl:lo<h.length)(l9:∀ h,ek m 9 h=DJ (.int b,h))(l4:∀ h,ek m 4 h=DJ (.ref u,h))(l6:∀ h,ek m 6 h=DJ (.int i,h))
  (k:∀ h',dr h' u lo (wb U b (U b++[i])) (n+1)->(∀ k o,k<=lo->k≠u->h[k]? =DJ o->h'[k]? =DJ o)->h.length<=h'.length->Ok (cF cl W ss m h') Q):
  Ok (cF cl W (.ite (.cmp .notIn (.loc 9) (.loc 4)) [.setSub (.loc 4) (.loc 9) (.list [])] []:: .expr (.bm .append (.sub (.loc 4) (.loc 9)) [(.loc 6)])::ss) m h) Q:=by
 refine kZ q fun es a1 a2 a3 a4 a5=>?_;clear q;have hul:=(gS.mp a1).1;have fin:∀ (h1:Hp) (es1:List (AV × AV)) (a:Nat),h1[u]? =DJ (.dict es1)->es1.length<=n+1->br es1 (.int b)=DJ (.ref a)->lo<a->h1[a]? =DJ (.list (az (U b)))->
   (∀ x:Nat,x≠b->(br es1 (.int x)=none/\U x=[])\/∃ a,br es1 (.int x)=DJ (.ref a)/\lo<a/\h1[a]? =DJ (.list (az (U x))))->(∀ (b b' a:Nat),br es1 (.int b)=DJ (.ref a)->br es1 (.int b')=DJ (.ref a)->b=b')->(∀ k o,k<=lo->k≠u->h[k]? =DJ o->h1[k]? =DJ o)->h.length<=h1.length->
   Ok (cF cl W (.expr (.bm .append (.sub (.loc 4) (.loc 9)) [(.loc 6)])::ss) m h1) Q:=by
  intro h1 es1 a e1 e2 e3 e4 e5 e6 e7 e8 e9;have hal:=(gS.mp e5).1;refine cZ (cK (a:=a) (h1:=h1) (h2:=h1) (v:= .int i) (by simp only[bD,oB,if_true,bW,bx,l4,l9,oB,kG,e1,ml,if_true,e3,oM]) e5 (by simp only[bW,bx,l6]) e5 (by refine yF (bT _) ?_;have:=a3 b;exact bu (nat_lit 12726647888622304316865) tt this hn)) (k _ ⟨es1,by refine yF (gN (by with_unfolding_all exact Ep (bS (nat_lit 12129325296674) tt hu e4))) ?_;exact e1,e2,fun x=> ?_,fun x=> ?_,e7⟩ (fun k o c1 c2 c3=>by refine yF (gN (by with_unfolding_all exact Ep (bS (nat_lit 12129325296674) tt c1 e4))) ?_;exact e8 k o c1 c2 c3) (by refine yF Fw ?_;exact e9))
  ·unfold wb;split
   ·have:=a3 b;simp;exact this
   ·have:=a3 x;exact Ha this
  ·by_cases q:b=x
   ·subst q;refine Ew ⟨a,e3,e4,?_⟩;refine yF (bH _ _ _ hal) ?_;unfold wb az;simp
   ·unfold wb;refine yF (if_neg q) ?_;rcases e6 x (fun e=>q e.symm) with c | ⟨y,c1,c2,c3⟩
    ·exact Ed c
    ·refine Ew ⟨y,c1,c2,?_⟩;have:a≠y:=fun e=>q (e7 b x a e3 (by (refine DK c1 ?_;refine yF e ?_;rfl)));refine yF (gN this) ?_;exact c3
 rcases a4 b with⟨b1,b2⟩ | ⟨a,b1,b2,b3⟩
 ·refine cg (c:=true) (h1:=h) (by simp only[aK,cW,cq,sf,oB,oM,if_true,bW,bx,l9,l4,oB,vL,a1,ml,if_true,b1,oM,G0,ID]) (fun _=> ?_) (fun e=>by simp at e);have c1:=ai.push h [.list []] _ _ a1;refine bk (v:= .ref h.length) (x:= .ref u) (y:= .int b) (h1:=h++[.list []]) (h2:=h++[.list []]) (h3:=h++[.list []]) rfl (by simp only[bW,bx,l4]) (by simp only[bW,bx,l9]) (h4:=(h++[AO.list []]).set u (AO.dict (dz es (.int b) (.ref h.length)))) (by simp only[sh,c1,ml];(refine DK (if_pos ⟨trivial,Ek a2 (aV (EK hn))⟩) ?_;rfl)) (cS ?_);refine fin _ (dz es (.int b) (.ref h.length)) h.length (bH _ _ _ (by simp;exact Eg hul)) (by have:=ju es (.int b) (.ref h.length);exact bS (nat_lit 12121169318278674262050) tt this a2) (by (rewrite[eI];refine DK (if_pos rfl) ?_;rfl)) hl (by (refine yF (gN (D4 hul)) ?_;refine yF au ?_;refine yF b2 ?_);rfl) (fun x hx=> ?_) (fun x y a h1 h2=> ?_) (fun k o c1 c2 c3=> ?_) (by simp)
  ·have hne:¬ AV.int b=AV.int x:=fun e=>hx (by injection e with e;exact FP.mp (Ot (by assumption)));rewrite[eI];refine yF (if_neg hne) ?_;rcases a4 x with c | ⟨y,c1,c2,c3⟩
   ·exact Ed c
   ·exact Ew ⟨y,c1,c2,by refine yF (gN (by with_unfolding_all exact D4 (bS (nat_lit 12129325296674) tt hu c2))) ?_;exact ai.push _ _ _ _ c3⟩
  ·rw[eI]at h1 h2;have old:∀ z:Nat,br es (.int z)≠DJ (.ref h.length):=by
    intro z hz;rcases a4 z with c | ⟨y,c1,c2,c3⟩
    ·rw[c.1]at hz;exact nO hz
    ·rw[c1]at hz;cases hz;have:=(gS.mp c3).1;exact Gc 0 (dm (nat_lit 384248832) tt this)
   by_cases q1:b=x
   ·by_cases q2:b=y
    ·exact Eo (bS (nat_lit 11029912301602) tt q1 q2) (bS (nat_lit 11029912301602) tt q2 q1)
    ·have hne:¬ AV.int b=AV.int y:=fun e=>q2 (by injection e with e;exact FP.mp (by assumption));rw[if_pos (by (refine yF q1 ?_;rfl))]at h1;rw[if_neg hne]at h2;cases h1;exact absurd h2 (old _)
   ·have hne:¬ AV.int b=AV.int x:=fun e=>q1 (by injection e with e;exact FP.mp (by assumption));rw[if_neg hne]at h1;by_cases q2:b=y
    ·rw[if_pos (by (refine yF q2 ?_;rfl))]at h2;cases h2;exact absurd h1 (old _)
    ·have hne2:¬ AV.int b=AV.int y:=fun e=>q2 (by injection e with e;exact FP.mp (by assumption));rw[if_neg hne2]at h2;exact a5 x y a h1 h2
  ·refine yF (gN (Hs (by assumption))) ?_;exact ai.push _ _ _ _ c3
 ·refine cg (c:=false) (h1:=h) (by simp only[aK,cW,cq,sf,oB,oM,if_true,bW,bx,l9,l4,oB,vL,a1,ml,if_true,b1,oM,G1,ET]) (fun e=>by simp at e) (fun _=>cS ?_);exact fin h es a a1 (Ha a2) b1 b2 b3 (fun x _=>a4 x) a5 (fun k o _ _ c=>c) (DV _)
theorem dr.get{u lo n b:Nat}{U:Nat->List Nat}(q:dr h u lo U n)(hl:lo<h.length)(l4:∀ h,ek m 4 h=DJ (.ref u,h))(e1:aC cl e m [] h=DJ (.int b,h)):
  ∃ a,aC cl (.bm .get (.loc 4) [e,.list []]) m [] h=DJ (.ref a,h++[.list []])/\lo<a/\(h++[.list []])[a]? =DJ (.list (az (U b))):=by
 refine kZ q fun es a1 a2 a3 a4 a5=>?_;clear q;have c1:=ai.push h [.list []] _ _ a1;have ev:∀ x,(br es (.int b)).getD (.ref h.length)=x->aC cl (.bm .get (.loc 4) [e,.list []]) m [] h=DJ (x,h++[.list []]):=by
  intro x hx;simp only[pf,mj,aw,aA,oB,if_true,bW,bx,l4,oB,vM,a1,if_true,e1,oM,B5,wR,c1,ml,hx]
 rcases a4 b with⟨b1,b2⟩ | ⟨a,b1,b2,b3⟩
 ·exact⟨h.length,ev _ (by refine yF b1 ?_;rfl),hl,by (refine DK au ?_;refine yF b2 ?_);rfl⟩
 ·exact⟨a,ev _ (by refine yF b1 ?_;rfl),b2,ai.push _ _ _ _ b3⟩
noncomputable def sG(C:Nat->Bool)(w:Nat->Int):Int->Option Int:=fun x=>if 0<=x/\C x.toNat=true then DJ (w x.toNat) else none
theorem uX{C:Nat->Bool}{w:Nat->Int}{i:Nat}(h:C i=true):sG C w i=DJ (w i):=by unfold sG;simp[h]
theorem yZ{C:Nat->Bool}{w:Nat->Int}{i:Nat}{v:Int}(h:C i=true):upd (sG C w) i v=sG C (t6 w i v):=by
 funext x
 unfold upd sG t6;by_cases q:(i:Int)=x
 ·subst q;simp[h]
 ·by_cases q2:0<=x
  ·have:¬ i=x.toNat:=Cs q q2;simp[q,this]
  ·simp[q,q2]
noncomputable def Cb(l:List aj)(j:Nat)(i:Nat):Bool:=decide (i<j)&& !bh (cA l i).kind
theorem y0:Cb l l.length i=true↔i∈bj l:=by
 unfold Cb bj;rewrite[E5];rewrite[E7];refine yF (Eb _ _) ?_;rewrite[decide_eq_true_iff];rfl
theorem y4{j:Nat}{w:Nat->Int}(h:bh (cA l j).kind=false):upd (sG (Cb l j) w) j (w j)=sG (Cb l (j+1)) w:=by
 funext x
 unfold upd sG Cb;by_cases q:(j:Int)=x
 ·subst q;simp[h]
 ·refine DK (if_neg q) ?_;by_cases q2:0<=x
  ·have e:decide (x.toNat<j+1)=decide (x.toNat<j):=decide_eq_decide.mpr (Bm (Cs q q2));refine yF e ?_;rfl
  ·simp[q2]
theorem y5{j:Nat}{w:Nat->Int}(h:bh (cA l j).kind=true):sG (Cb l j) w=sG (Cb l (j+1)) w:=by
 funext x
 unfold sG Cb;by_cases q:(j:Int)=x
 ·subst q;simp[h]
 ·by_cases q2:0<=x
  ·have e:decide (x.toNat<j+1)=decide (x.toNat<j):=decide_eq_decide.mpr (Bm (Cs q q2));refine yF e ?_;rfl
  ·simp[q2]
theorem jy(l:List aj)(j:Nat):gR l (j+1)=gR l j++(if bh (cA l j).kind=false/\(pre l j).length=0 then [j] else []):=by
 unfold gR;refine yF Gr ?_;refine yF (FN _ _) ?_;congr 1;cases h:bh (cA l j).kind<;>by_cases h2:pre l j=[]<;>simp[h,h2]
theorem t9(l:List aj)(j:Nat):(gR l j).length<=j:=by
 have:=EI (fun i=> !bh (cA l i).kind&&decide ((pre l i).length=0)) (Ec j);rw[E8]at this;exact this
theorem n7(l:List Nat)(i:Nat):az l++[.int i]=az (l++[i]):=by unfold az;simp
theorem xw(k:Nat):decide ((k:Int)=0)=decide (k=0):=by rewrite[decide_eq_decide];exact Hq
theorem mX(q:aI H L N)(hs:gP N)(hd:aY H d (iH N.cells) M):∃ a H' R w,ad P 1000 (n+2) 11 [.ref (L+1),.ref d] H=DJ (.ref a,H')/\ai H H'/\H'[a]? =DJ (.list (az R))/\jw N.cells R.length R w/\H.length<=a:=by
 obtain⟨v,H',e,a,R,w,rfl,r1,r2,r3,r4⟩:∃ v H',ad P 1000 (n+2) 11 [.ref (L+1),.ref d] H=DJ (v,H')/\∃ a R w,v= .ref a/\ai H H'/\H'[a]? =DJ (.list (az R))/\jw N.cells R.length R w/\H.length<=a:=by
  let Q0:AV->Hp->Prop:=fun v H'=>∃ a R w,v= .ref a/\ai H H'/\H'[a]? =DJ (.list (az R))/\jw N.cells R.length R w/\H.length<=a
  refine bQ (Q:=Q0) (fn:=fX) rfl rfl ?_;unfold fX;have hk:=fun k H=>jh (W:=1000) (n:=n) (k:=k) (H:=H);generalize ad P 1000 (n+1)=cl at *;simp only[mN,mC,dR,dS,DY,Ee,Nat.reduceSub,t5];have at0:=q.attr;have hn20:=hs.cc;refine ac (v:= .ref (L+4)) (h1:=H) (m1:=[DJ (.ref (L+1)),DJ (.ref d),DJ (.ref (L+4)),none,none,none,none,none,none,none,none]) (by simp only[aB,cV,oB,at0,oM]) rfl ?_;refine ac (v:= .ref H.length) (h1:=H++[.dict []]) (m1:=[DJ (.ref (L+1)),DJ (.ref d),DJ (.ref (L+4)),DJ (.ref H.length),none,none,none,none,none,none,none]) rfl rfl ?_;refine ac (v:= .ref (H.length+1)) (h1:=(H++[.dict []])++[.dict []]) (m1:=[DJ (.ref (L+1)),DJ (.ref d),DJ (.ref (L+4)),DJ (.ref H.length),DJ (.ref (H.length+1)),none,none,none,none,none,none]) (by simp only[vI,aw,oB,fz,DU,Ex];rfl) rfl ?_;refine ac (v:= .ref (H.length+2)) (h1:=((H++[.dict []])++[.dict []])++[.list []]) (m1:=[DJ (.ref (L+1)),DJ (.ref d),DJ (.ref (L+4)),DJ (.ref H.length),DJ (.ref (H.length+1)),DJ (.ref (H.length+2)),none,none,none,none,none]) (by simp only[pf,aw,oB,DU,Ex]<;>rfl) rfl ?_;refine yF (D1 _ _ _) ?_;refine yF (D1 _ _ _) ?_;have k0:ai H (H++([AO.dict []]++([AO.dict []]++[AO.list []]))):=ai.push _ _;have w0:(H++([AO.dict []]++([AO.dict []]++[AO.list []])))[H.length]? =DJ (.dict []):=au;have u0:(H++([AO.dict []]++([AO.dict []]++[AO.list []])))[H.length+1]? =DJ (.dict []):=eA;have l0:(H++([AO.dict []]++([AO.dict []]++[AO.list []])))[H.length+2]? =DJ (.list []):=eA;generalize H++([AO.dict []]++([AO.dict []]++[AO.list []]))=h0 at *;have q0:=q.keep k0;have hb:=dc q0.cel;let St1:Nat->aZ->Hp->Prop:=fun j m h=>(∃ x6 x7 x8 x9,m=[DJ (.ref (L+1)),DJ (.ref d),DJ (.ref (L+4)),DJ (.ref H.length),DJ (.ref (H.length+1)),DJ (.ref (H.length+2)),x6,x7,x8,x9,none])/\ai H h/\aY h H.length (sG (Cb N.cells j) (fun i=>((pre N.cells i).length:Nat))) j/\dr h (H.length+1) (H.length+2) (bI N.cells j) (20 * j)/\h[H.length+2]? =DJ (.list (az (gR N.cells j)))
  refine da (n:=N.cells.length) (h1:=h0) St1
   (by simp only[aB,aU,cO,aw,aA,oB,hb,DR]) (DO hn20 (by decide)) ⟨⟨none,none,none,none,rfl⟩,k0,⟨[],w0,by simp,fun x=>by unfold sG Cb;simp[br]⟩,⟨[],u0,by simp,fun b=>by simp[bI],fun b=>Ed ⟨rfl,rfl⟩,fun b b' a e=>by simp[br]at e⟩,l0⟩ ?_ ?_
  ·intro j m h hj z5;refine nw z5 fun z160 a1 a2 a3 a4=>?_;clear z5;refine eT z160 fun x6 x7 x8 x9 z224=>?_;clear z160;subst z224;refine⟨[DJ (.ref (L+1)),DJ (.ref d),DJ (.ref (L+4)),DJ (.ref H.length),DJ (.ref (H.length+1)),DJ (.ref (H.length+2)),DJ (.int j),x7,x8,x9,none],rfl,?_⟩;have q1:=q.keep a1;have c1:=gT q1 hj;refine cg (c:=bh (cA N.cells j).kind) (h1:=h) (by simp only[bd,aB,aU,bD,ej,aw,aA,cW,cq,cQ,iW,oB,c1,aj.v,hk]) ?_ ?_
   ·intro e;refine yY ⟨fun x=>by simp at x,fun _=>⟨by simp,⟨_,_,_,_,rfl⟩,a1,?_,?_,?_⟩⟩
    ·refine yB (y5 e) ?_;exact a2.mono (D5 _ _)
    ·have:bI N.cells (j+1)=bI N.cells j:=by funext b;refine DK (jx _ _ _) ?_;refine yF (if_pos e) ?_;refine DK (EC _) ?_;rfl
     refine yF this ?_;exact a3.mono (dm (nat_lit 379619038977357533742) tt)
    ·refine yF (jy _ _) ?_;refine yF e ?_;simpa using a4
   ·intro e;refine cS ?_;refine ac (v:= .int 0) (h1:=h) (m1:=[DJ (.ref (L+1)),DJ (.ref d),DJ (.ref (L+4)),DJ (.ref H.length),DJ (.ref (H.length+1)),DJ (.ref (H.length+2)),DJ (.int j),DJ (.int 0),x8,x9,none]) rfl rfl ?_;have hil:=hs.ni _ (bL hj);let St2:Nat->aZ->Hp->Prop:=fun k m h=>(∃ x8 x9,m=[DJ (.ref (L+1)),DJ (.ref d),DJ (.ref (L+4)),DJ (.ref H.length),DJ (.ref (H.length+1)),DJ (.ref (H.length+2)),DJ (.int j),DJ (.int ((((cA N.cells j).ins.take k).filterMap (iG N.cells)).length:Nat)),x8,x9,none])/\ai H h/\aY h H.length (sG (Cb N.cells j) (fun i=>((pre N.cells i).length:Nat))) j/\dr h (H.length+1) (H.length+2) (fun b=>bI N.cells j b++D0 ((((cA N.cells j).ins.take k).filterMap (iG N.cells)).count b) j) (20 * j+k)/\h[H.length+2]? =DJ (.list (az (gR N.cells j)))
    refine dM (x:= .tup (aa (cA N.cells j).ins)) (vs:=aa (cA N.cells j).ins) (gd:=none) (h1:=h) St2
     (by simp only[bd,aB,aU,bD,cQ,qH,oB,c1,aj.v]) rfl ⟨⟨x8,x9,rfl⟩,a1,a2,by simpa using a3,a4⟩ (fun _ _ _ _ _=>rfl) ?_ ?_
    ·intro k v m h hv z6;refine nw z6 fun z190 a1 a2 a3 a4=>?_;clear z6;refine eR z190 fun x8 x9 z252=>?_;clear z190;subst z252;have hkl:=(gS.mp hv).1;rw[DR]at hkl;rw[DX,gE hkl]at hv;have htk:(cA N.cells j).ins.take (k+1)=(cA N.cells j).ins.take k++[(cA N.cells j).ins[k]]:=by (refine DK E1 ?_;refine yF (gE hkl) ?_);rfl
     generalize (cA N.cells j).ins[k]=x at *;simp only[oM,D7]at hv;subst hv;refine⟨[DJ (.ref (L+1)),DJ (.ref d),DJ (.ref (L+4)),DJ (.ref H.length),DJ (.ref (H.length+1)),DJ (.ref (H.length+2)),DJ (.int j),DJ (.int ((((cA N.cells j).ins.take k).filterMap (iG N.cells)).length:Nat)),DJ (.int x),x9,none],rfl,?_⟩;have hd1:=hd.keep a1;refine ac (v:= .int ((iH N.cells x).getD (-1))) (h1:=h) (m1:=[DJ (.ref (L+1)),DJ (.ref d),DJ (.ref (L+4)),DJ (.ref H.length),DJ (.ref (H.length+1)),DJ (.ref (H.length+2)),DJ (.int j),DJ (.int ((((cA N.cells j).ins.take k).filterMap (iG N.cells)).length:Nat)),DJ (.int x),DJ (.int ((iH N.cells x).getD (-1))),none]) (by simp only[aB,aU,tN,mj,aw,aA,oB,if_true,hd1.ok,if_true,hd1.get]) rfl ?_;dsimp only[St2];refine yF htk ?_;refine yF filterMap_append ?_;have skip:iG N.cells x=none->∀ w,(((cA N.cells j).ins.take k).filterMap (iG N.cells)++[x].filterMap (iG N.cells))=w->w=((cA N.cells j).ins.take k).filterMap (iG N.cells):=by
      intro hp w hw;refine yB hw ?_;simp[hp]
     have q2:=q.keep a1;cases hdr:eP N.cells x with
     | none=>
      have e1:(iH N.cells x).getD (-1)= -1:=by unfold iH;refine yF hdr ?_;rfl
      have e2:iG N.cells x=none:=by unfold iG;refine yF hdr ?_;rfl
      refine yF e1 ?_;refine yF (skip e2 _ rfl) ?_;refine fH (h1:=h) (pR rfl) (aN ⟨by simp,⟨_,_,rfl⟩,a1,a2,a3.mono (bu (nat_lit 396850488332791833043161646) tt),a4⟩)
     | some b=>
      have e1:(iH N.cells x).getD (-1)=b:=by unfold iH;refine yF hdr ?_;rfl
      have hbl:b<N.cells.length:=by
       unfold eP at hdr;rw[Gf]at hdr;exact hdr.1
      have c2:=gT q2 hbl;refine yF e1 ?_;refine cg (c:=true&& !bh (cA N.cells b).kind) (h1:=h) (xd (x:=true) (y:= !bh (cA N.cells b).kind) (by simp only[bd,aB,aU,aK,yO,oB];try (congr 3;try simp)) (by simp only[bd,aB,aU,Ag,bD,ej,aw,aA,cq,cQ,iW,oB,c2,aj.v,hk])) ?_ ?_
      ·intro hst;have hst:bh (cA N.cells b).kind=false:=by simpa using hst
       have e2:iG N.cells x=DJ b:=by unfold iG;refine yF hdr ?_;simp[hst]
       have e3:[x].filterMap (iG N.cells)=[b]:=by simp[e2]
       refine yF e3 ?_;generalize ((cA N.cells j).ins.take k).filterMap (iG N.cells)=pk at *;refine jX (x:= .int (pk.length:Nat)) (v:= .int 1) (r:= .int ((pk++[b]).length:Nat)) (h1:=h) (h2:=h) (h3:=h) (m1:=[DJ (.ref (L+1)),DJ (.ref d),DJ (.ref (L+4)),DJ (.ref H.length),DJ (.ref (H.length+1)),DJ (.ref (H.length+2)),DJ (.int j),DJ (.int ((pk++[b]).length:Nat)),DJ (.int x),DJ (.int b),none]) rfl rfl (by simp only[vJ,tO,oM,DU,Ex];rfl) rfl ?_;have hll:=(gS.mp a4).1;refine t8 (i:=j) (b:=b) a3 (by exact kt (nat_lit 20325453710968878601466144328022145506840076857300782312180966210261550) tt hkl hil (ES 20 (JI hj)) (ES 20 hn20)) (dm (nat_lit 11289791579584) tt) hll (fun h=>rfl) (fun h=>rfl) (fun h=>rfl) (fun h' b1 b2 b3=>bz ⟨by simp,⟨_,_,rfl⟩,?_,?_,?_,?_⟩)
       ·intro i o ho;have:=(gS.mp ho).1;exact b2 i o (bu (nat_lit 11289792359456) tt this) (D4 (bu (nat_lit 12388230245408) tt this)) (a1 i o ho)
       ·refine aM a2 fun es f1 f2 f3=>?_;clear a2;exact⟨es,b2 _ _ (D5 _ _) (D4 (dm (nat_lit 378058752) tt)) f1,f2,f3⟩
       ·have:wb (fun b=>bI N.cells j b++D0 (pk.count b) j) b ((bI N.cells j b++D0 (pk.count b) j)++[j])=fun b'=>bI N.cells j b'++D0 ((pk++[b]).count b') j:=by
         funext b'
         unfold wb;refine yF H9 ?_;refine yF Ko ?_;by_cases qb:b=b'
         ·subst qb;refine yF (if_pos rfl) ?_;refine yF (beq_self_eq_true _) ?_;refine yF (if_pos rfl) ?_;refine DK (D1 _ _ _) ?_;refine yF Kq ?_;rfl
         ·have:(b == b')=false:=by simpa using qb
          refine DK (if_neg qb) ?_;refine yF this ?_;simp
        rw[this]at b1;exact b1
       ·exact b2 _ _ (DV _) (Fb _) a4
      ·intro hst;have hst:bh (cA N.cells b).kind=true:=by simpa using hst
       have e2:iG N.cells x=none:=by unfold iG;refine yF hdr ?_;simp[hst]
       refine yF (skip e2 _ rfl) ?_;exact bz ⟨by simp,⟨_,_,rfl⟩,a1,a2,a3.mono (bu (nat_lit 396850488332791833043161646) tt),a4⟩
    ·intro m h z3;refine nw z3 fun z100 a1 a2 a3 a4=>?_;clear z3;refine eR z100 fun x8 x9 z162=>?_;clear z100;subst z162;rw[DR,Ef]at a3;refine yF (DR _) ?_;refine yF Ef ?_;change dr h (H.length+1) (H.length+2) (fun b=>bI N.cells j b++D0 ((pre N.cells j).count b) j) _ at a3;change Ok (cF cl 1000 _ [DJ (.ref (L+1)),DJ (.ref d),DJ (.ref (L+4)),DJ (.ref H.length),DJ (.ref (H.length+1)),DJ (.ref (H.length+2)),DJ (.int j),DJ (.int ((pre N.cells j).length:Nat)),x8,x9,none] h) _;have hu:(fun b=>bI N.cells j b++D0 ((pre N.cells j).count b) j)=bI N.cells (j+1):=by
      funext b;refine yF (jx _ _ _) ?_;refine yF e ?_;simp
     rw[hu]at a3;refine af (a2.put j ((pre N.cells j).length:Nat) (bu (nat_lit 434601234701224658369) tt hj hn20)) fun o o1 o2=>?_;have hcb:=y4 (w:=fun i=>((pre N.cells i).length:Nat)) e;rw[hcb]at o2;have a4':(h.set H.length o)[H.length+2]? =DJ (.list (az (gR N.cells j))):=by refine DK (gN (by with_unfolding_all exact D4 (dm (nat_lit 378091520) tt))) ?_;exact a4
     have a3':dr (h.set H.length o) (H.length+1) (H.length+2) (bI N.cells (j+1)) (20 * (j+1)):=(a3.frame (fun k o hk ho=>by refine yF (gN (C0 hk)) ?_;exact ho)).mono (bu (nat_lit 13043610858773563826976842204609) tt hil);have a1':ai H (h.set H.length o):=a1.set (DV _);refine bk (v:= .int ((pre N.cells j).length:Nat)) (x:= .ref H.length) (y:= .int j) (h1:=h) (h2:=h) (h3:=h) rfl rfl rfl o1 ?_;generalize h.set H.length o=h2 at *;refine cg (c:=decide ((pre N.cells j).length=0)) (h1:=h2) (by simp only[bd,aB,aU,aK,cW,cq,bt,aD,oB,xw]) ?_ ?_
     ·intro e0;have e0:=of_decide_eq_true e0;have hr1:=t9 N.cells j;refine cZ (cK (a:=H.length+2) (h1:=h2) (h2:=h2) (v:= .int j) rfl a4' rfl a4' (by refine yF (bT _) ?_;exact bS (nat_lit 13032087437949215015847362) tt hr1 hj hn20)) (bz ⟨by simp,⟨_,_,_,_,rfl⟩,a1'.set (D5 _ _),o2.other (Ep (dm (nat_lit 378091520) tt)),a3'.frame (fun k o hk ho=>by refine yF (gN (C1 hk)) ?_;exact ho),?_⟩);refine yF (bH _ _ _ (gS.mp a4').1) ?_;refine yF (n7 _ _) ?_;refine yF (jy _ _) ?_;refine yF (if_pos ⟨e,e0⟩) ?_;rfl
     ·intro e0;have e0:=of_decide_eq_false e0;refine bz ⟨by simp,⟨_,_,_,_,rfl⟩,a1',o2,a3',?_⟩;refine yF (jy _ _) ?_;rewrite[if_neg (fun c=>e0 c.2)];refine yF (EC _) ?_;exact a4'
  ·intro m h z3;refine nw z3 fun z100 a1 a2 a3 a4=>?_;clear z3;refine eT z100 fun x6 x7 x8 x9 z164=>?_;clear z100;subst z164;refine ac (v:= .int 0) (h1:=h) (m1:=[DJ (.ref (L+1)),DJ (.ref d),DJ (.ref (L+4)),DJ (.ref H.length),DJ (.ref (H.length+1)),DJ (.ref (H.length+2)),x6,x7,x8,x9,DJ (.int 0)]) rfl rfl ?_;have kinit:=jw.init N.cells;let St3:Nat->aZ->Hp->Prop:=fun k m h=>∃ t R w x6,k+t=20/\m=[DJ (.ref (L+1)),DJ (.ref d),DJ (.ref (L+4)),DJ (.ref H.length),DJ (.ref (H.length+1)),DJ (.ref (H.length+2)),x6,x7,x8,x9,DJ (.int (t:Nat))]/\ai H h/\jw N.cells t R w/\aY h H.length (sG (Cb N.cells N.cells.length) w) 20/\dr h (H.length+1) (H.length+2) (bI N.cells N.cells.length) 400/\h[H.length+2]? =DJ (.list (az R))
   refine nQ St3
    (fun m h=>∃ R w x6 t,m=[DJ (.ref (L+1)),DJ (.ref d),DJ (.ref (L+4)),DJ (.ref H.length),DJ (.ref (H.length+1)),DJ (.ref (H.length+2)),x6,x7,x8,x9,DJ (.int (t:Nat))]/\ai H h/\jw N.cells R.length R w/\h[H.length+2]? =DJ (.list (az R))) 20 (by decide) ⟨0,_,_,x6,rfl,rfl,a1,kinit,a2.mono hn20,a3.mono (by exact dm (nat_lit 13662161638148362631388420356723246) tt (ES 20 hn20)),a4⟩ ?_ ?_
   ·intro k m h z4;refine yK z4 fun t R w x6 hkt z135 a1 ki a2 a3 a4=>?_;clear z4;subst z135;have hb:=dc a4;have hRl:=ki.lens;by_cases htl:t<R.length
    ·right
     refine⟨h,by simp only[aB,aU,aK,cO,aw,aA,cW,cq,mW,oB,hb,bT];congr 2;simp;exact htl,?_⟩;have hRt:R[t]? =DJ R[t]:=gE htl;generalize R[t]=b at hRt;have hsub:aC cl (.sub (.loc 5) (.loc 10)) [DJ (.ref (L+1)),DJ (.ref d),DJ (.ref (L+4)),DJ (.ref H.length),DJ (.ref (H.length+1)),DJ (.ref (H.length+2)),x6,x7,x8,x9,DJ (.int (t:Nat))] [] h=DJ (.int b,h):=by
      have:(az R)[t]? =DJ (.int b):=by unfold az;refine DK DX ?_;refine yF hRt ?_;rfl
      simp only[aB,aU,bD,oB,er a4,this]
     have hll:=(gS.mp a4).1;refine aM (a3.get (b:=b) hll (fun h=>rfl) hsub) fun a g1 g2 g3=>?_;have k1:=ai.push h [.list []];have a1:=a1.trans k1;have a2:=a2.keep k1;have a3:=a3.frame (fun k o _ ho=>k1 k o ho);have a4:=k1 _ _ a4;generalize h++[AO.list []]=h1 at *;let St4:Nat->aZ->Hp->Prop:=fun p m h=>∃ R' w' x6,m=[DJ (.ref (L+1)),DJ (.ref d),DJ (.ref (L+4)),DJ (.ref H.length),DJ (.ref (H.length+1)),DJ (.ref (H.length+2)),x6,x7,x8,x9,DJ (.int (t:Nat))]/\pt N.cells t R w b ((bI N.cells N.cells.length b).take p) R' w'/\aY h H.length (sG (Cb N.cells N.cells.length) w') 20/\h[H.length+2]? =DJ (.list (az R'))/\(∀ k o,(k<H.length\/k=H.length+1\/H.length+2<k)->h1[k]? =DJ o->h[k]? =DJ o)
     refine dM (x:= .ref a) (vs:=az (bI N.cells N.cells.length b)) (gd:=DJ (a,.list (az (bI N.cells N.cells.length b)))) (h1:=h1) St4
      g1 (aF _ _ _ g3) ⟨R,w,x6,rfl,ki.mid b,a2,a4,fun k o _ e=>e⟩ (fun j m h _ z=>iC z fun R' w' x6 _ _ _ _ hf=>by unfold av;simp[hf _ _ (by exact .inr (.inr (bu (nat_lit 397744414708222400) tt g2))) g3]) ?_ ?_
     ·intro p v m h hv z6;refine iC z6 fun R' w' x6 z193 km b2 b4 hf=>?_;clear z6;subst z193;have hpl:=(gS.mp hv).1;rw[bT]at hpl;have hup:(bI N.cells N.cells.length b)[p]? =DJ (bI N.cells N.cells.length b)[p]:=gE hpl;have hic:=t7 N.cells b _ (Ey hpl);have hsp:bI N.cells N.cells.length b=(bI N.cells N.cells.length b).take p++((bI N.cells N.cells.length b)[p]::(bI N.cells N.cells.length b).drop (p+1)):=by (refine yB (EO hpl) ?_;refine yF (FM _ _) ?_;rfl)
      have hcnt:=mK N.cells b;rw[show az (bI N.cells N.cells.length b)=(bI N.cells N.cells.length b).map fun (i:Nat)=>AV.int i from rfl,DX,hup]at hv;generalize (bI N.cells N.cells.length b)[p]=i at *;generalize (bI N.cells N.cells.length b).drop (p+1)=qt at *;simp only[oM,D7]at hv;subst hv;have hcb:=y0.mpr hic;have hcnt2:∀ i'∈bj N.cells,((bI N.cells N.cells.length b).take p++i::qt).count i'<=(pre N.cells i').count b:=by
       intro i' hi';refine yB hsp ?_;refine yF (hcnt i' hi') ?_;exact DV _
      have km2:=pt.step (qt:=qt) ki hRt km hic (hcnt2 i hic);have hml:=km2.lens;refine⟨[DJ (.ref (L+1)),DJ (.ref d),DJ (.ref (L+4)),DJ (.ref H.length),DJ (.ref (H.length+1)),DJ (.ref (H.length+2)),DJ (.int i),x7,x8,x9,DJ (.int (t:Nat))],rfl,?_⟩;refine aM b2 fun es f1 f2 f3=>?_;clear b2;have f4:=f3 i;rw[uX hcb]at f4;have hsv:dq h (.ref H.length) (.int i) (.int (w' i - 1))=DJ (h.set H.length (.dict (dz es (.int i) (.int (w' i - 1))))):=by
       simp only[sh,f1,ml];refine yF (if_pos ⟨trivial,Ek f2 (aV (by decide))⟩) ?_;rfl
      have b2':aY (h.set H.length (.dict (dz es (.int i) (.int (w' i - 1))))) H.length (sG (Cb N.cells N.cells.length) (t6 w' i (w' i - 1))) 20:=by
       refine⟨_,bH _ _ _ (gS.mp f1).1,?_,?_⟩
       ·have:∀ (es:List (AV × AV)) (k v x:AV),br es k=DJ x->(dz es k v).length=es.length:=by
         intro es k v x;induction es with
         | nil=>intro e;exact nO e
         | cons p r ih=>
          obtain⟨a,y⟩:=p;intro e;rewrite[dC]at e;rewrite[ke];split
          ·rfl
          ·rename_i hne;rw[if_neg hne]at e;refine DK D6 ?_;dsimp only[D6];refine yF (ih e) ?_;rfl
        refine yF (this _ _ _ _ f4) ?_;exact f2
       ·intro z;rewrite[eI];refine yB (yZ hcb) ?_;unfold upd;by_cases qz:(i:Int)=z
        ·subst qz;simp
        ·have:¬ AV.int (i:Int)=AV.int z:=fun e=>qz (by injection e);refine yF (if_neg qz) ?_;refine DK (if_neg this) ?_;refine DK (f3 _) ?_;rfl
      refine v6 (x:= .ref H.length) (y:= .int i) (old:= .int (w' i)) (v:= .int 1) (r:= .int (w' i - 1)) (h1:=h) (h2:=h) (h3:=h) (h4:=h) rfl rfl (by simp only[kG,f1,ml,if_true,f4,oM]) rfl rfl hsv ?_;have b4':(h.set H.length (.dict (dz es (.int i) (.int (w' i - 1)))))[H.length+2]? =DJ (.list (az R')):=by refine DK (gN (by with_unfolding_all exact D4 (dm (nat_lit 378091520) tt))) ?_;exact b4
      have hf':∀ k o,(k<H.length\/k=H.length+1\/H.length+2<k)->h1[k]? =DJ o->(h.set H.length (.dict (dz es (.int i) (.int (w' i - 1)))))[k]? =DJ o:=fun k o hk ho=>by refine DK (gN (Dg hk)) ?_;exact hf k o hk ho
      generalize h.set H.length (AO.dict (dz es (.int i) (.int (w' i - 1))))=h2 at *;have hw:fS h2 (.ref H.length) (.int i)=DJ (.int (w' i - 1)):=by
       have:=b2'.sub (x:=i) (y:=w' i - 1) (by refine DK (uX hcb) ?_;unfold t6;simp);exact this
      have htk2:=bn hup;refine cg (c:=decide (w' i - 1=0)) (h1:=h2) (by simp only[bd,aB,aU,aK,bD,cW,cq,bt,aD,oB,hw]) ?_ ?_
      ·intro e0;have e0:=of_decide_eq_true e0;rw[if_pos e0]at km2 hml;refine cZ (cK (a:=H.length+2) (h1:=h2) (h2:=h2) (v:= .int i) rfl b4' rfl b4' (by refine yF (bT _) ?_;rw[DU]at hml;exact bS (nat_lit 407252732437276564014530) tt hml hn20)) (bz ⟨by simp,R'++[i],_,_,rfl,?_,b2'.other (Ep (dm (nat_lit 378091520) tt)),?_,fun k o hk ho=> ?_⟩)
       ·refine yF htk2 ?_;exact km2
       ·refine yF (bH _ _ _ (gS.mp b4').1) ?_;refine yF (n7 _ _) ?_;rfl
       ·refine yF (gN (Dh hk)) ?_;exact hf' k o hk ho
      ·intro e0;have e0:=of_decide_eq_false e0;rw[if_neg e0]at km2;exact bz ⟨by simp,R',_,_,rfl,by refine yF htk2 ?_;exact km2,b2',b4',hf'⟩
     ·intro m h z3;refine iC z3 fun R' w' x6 z103 km b2 b4 hf=>?_;clear z3;subst z103;rw[bT,Ef]at km;have ki2:=km.done ki hRt (mK N.cells b);refine jX (x:= .int (t:Nat)) (v:= .int 1) (r:= .int ((t+1:Nat):Int)) (h1:=h) (h2:=h) (h3:=h) (m1:=[DJ (.ref (L+1)),DJ (.ref d),DJ (.ref (L+4)),DJ (.ref H.length),DJ (.ref (H.length+1)),DJ (.ref (H.length+2)),x6,x7,x8,x9,DJ (.int ((t+1:Nat):Int))]) rfl rfl rfl rfl (aN ⟨by simp,k - 1,(kq hkt htl hRl hn20).1,t+1,R',w',x6,(kq hkt htl hRl hn20).2,rfl,?_,ki2,b2,a3.frame (fun k o hk ho=>hf k o (by exact Or.symm (Or.intro_left (k<Kg H) hk)) ho),b4⟩);intro i o ho;have:=(gS.mp ho).1;exact hf i o (.inl (bu (nat_lit 370158624) tt this)) (a1 i o ho)
    ·left
     refine⟨h,by simp only[aB,aU,aK,cO,aw,aA,cW,cq,mW,oB,hb,bT];congr 2;simp;exact Fe.mp htl,R,w,x6,t,rfl,a1,?_,a4⟩;have:t=R.length:=by have:=ki.le;exact Eo (bu (nat_lit 336603168) tt this) (bu (nat_lit 336603168) tt (E6 htl))
     refine yB this ?_;exact ki
   ·intro m h z3;refine Ab z3 fun R w x6 t z104 a1 ki a4=>?_;clear z3;subst z104;exact bK (v:= .ref (H.length+2)) (h1:=h) rfl (Ed ⟨_,rfl,_,R,w,rfl,a1,a4,ki,D5 _ _⟩)
 exact⟨a,H',R,w,e,r1,r2,r3,r4⟩
theorem ls(q:aI H L N)(hs:gP N)(hu:(bq N++outs N).Nodup)(rk:Nat->Nat)(hr:∀ i∈bj N.cells,∀ b∈pre N.cells i,rk b<rk i):∃ a H' R,ad P 1000 (n+3) 12 [.ref (L+1)] H=DJ (.ref a,H')/\ai H H'/\H'[a]? =DJ (.list (az R))/\cP N.cells R/\H.length<=a:=by
 refine aW (pQ (W:=1000) (n:=n+1) q hs hu) fun d H1 e1 k1 hd=>?_;refine Cm (mX (n:=n) (q.keep k1) hs hd) fun a H2 R w e2 k2 g2 ki hal=>?_;have o:=ki.order rfl rk hr;refine af (pu (W:=1000) (n:=n) ((q.keep k1).keep k2) hs) fun T e3 hT=>?_;refine⟨a,H2++[.list T],R,bE (fn:=iQ) rfl rfl ⟨[DJ (.ref (L+1)),DJ (.ref a)],?_⟩,(k1.trans k2).snoc _,ai.push _ _ _ _ g2,o,DO k1.len hal⟩;unfold iQ;simp only[FO,Nat.reduceAdd]at e1 e2 e3;generalize ad P 1000 (n+2)=cl at *;have q2:=((q.keep k1).keep k2).keep (ai.push H2 [.list T]);have g3:=ai.push H2 [.list T] _ _ g2;have b1:=dc g2;have b2:pH (H2++[.list T]) .len [.ref H2.length]=DJ (.int T.length,H2++[.list T]):=dc au;have b3:=dc q2.cel;have at2:=q2.attr;have at1:=q.attr;have hol:=o.len;simp only[mN,mC,dR,dS,DY,Ee,Nat.reduceSub,t5];refine bJ (m1:=[DJ (.ref (L+1)),DJ (.ref a)]) (h1:=H2) (cH (v:= .ref a) (h1:=H2) (by simp only[aB,ej,aw,aA,oB,e1,e2]) rfl) ?_;refine bJ (m1:=[DJ (.ref (L+1)),DJ (.ref a)]) (h1:=H2++[.list T]) ?_ (bM (cX (v:= .ref a) rfl));have ht:f9 cl (.cmp .lt (.bin .add (.bi .len [(.loc 1)]) (.bi .len [(.call 9 [(.loc 0)])])) (.bi .len [(.attr (.loc 0) fZ)])) [DJ (.ref (L+1)),DJ (.ref a)] H2=DJ (false,H2++[.list T]):=by
  simp only[aB,aU,jQ,aK,cV,ej,cO,aw,aA,cW,cq,mW,ec,tO,oB,oM,b1,e3,b2,b3,at2,bT,DR];congr 2;simp;lia
 refine bs ht ?_;rfl
structure FS where
 cells:List aj
 rep:Int->Option Int
 inv:Int->Option Int
noncomputable def gU(s:FS)(i:Nat):F3:=ck (cA s.cells i).kind (cA s.cells i).param ((cA s.cells i).ins.map (fin s.rep)) s.inv
noncomputable def et(s:FS)(i:Nat):FS:=
 if (gU s i).kind=aP then ⟨s.cells,upd s.rep (cA s.cells i).out ((gU s i).ins.getD 0 0),s.inv⟩
 else ⟨s.cells.set i ⟨(gU s i).kind,(cA s.cells i).out,(gU s i).ins,(gU s i).param⟩,s.rep,
  if (gU s i).kind=bC then upd (upd s.inv (cA s.cells i).out ((gU s i).ins.getD 0 0)) ((gU s i).ins.getD 0 0) (cA s.cells i).out else s.inv⟩
noncomputable def aH(l:List aj)(R:List Nat):FS:=R.foldl et ⟨l,fun _=>none,fun _=>none⟩
theorem mL(l:List aj)(R:List Nat)(i:Nat):aH l (R++[i])=et (aH l R) i:=by unfold aH;refine DK Ga ?_;rfl
theorem q7(s:FS)(i:Nat):(et s i).cells.length=s.cells.length:=by unfold et;split<;>simp
theorem n8(l:List aj)(R:List Nat):(aH l R).cells.length=l.length:=by
 unfold aH;have:∀ s:FS,(R.foldl et s).cells.length=s.cells.length:=by
  induction R with
  | nil=>intro s;rfl
  | cons i R ih=>intro s;dsimp only[F4];refine DK (ih _) ?_;refine DK (q7 _ _) ?_;rfl
 exact this _
structure ub(N:NL)(R:List Nat):Prop where
 ch:∀ p,p<=R.length->nZ (aH N.cells (R.take p)).rep
 ok:∀ p i,R[p]? =DJ i->aT (cA (aH N.cells (R.take p)).cells i).kind (cA (aH N.cells (R.take p)).cells i).ins.length (cA (aH N.cells (R.take p)).cells i).param
 nn:∀ p i,R[p]? =DJ i->∀ x∈(cA (aH N.cells (R.take p)).cells i).ins,0<=fin (aH N.cells (R.take p)).rep x
 li:∀ c∈(aH N.cells R).cells,c.ins.length<=100
theorem du(h:aT k l p):1<=l/\l<=3:=by cases h<;>(first | lia | decide)
theorem xx{inv:Int->Option Int}(h:f.ins≠[]):(em inv f).ins≠[]:=by
 unfold em;(repeat' split)<;>first | exact h | exact GR _ _
theorem mr(q:aI H L N)(hs:gP N)(hu:(bq N++outs N).Nodup)(rk:Nat->Nat)(hr:∀ i∈bj N.cells,∀ b∈pre N.cells i,rk b<rk i)(hf:∀ R,cP N.cells R->ub N R):
  ∃ R L' H',ad P 1000 (n+10) 36 [.ref (L+1)] H=DJ (.ref (L'+1),H')/\cP N.cells R/\aI H' L' (be N (aH N.cells R).cells (aH N.cells R).rep)/\ai H H':=by
 obtain⟨v,H',e,R,L',rfl,r1,r2,r3⟩:∃ v H',ad P 1000 (n+10) 36 [.ref (L+1)] H=DJ (v,H')/\∃ R L',v= .ref (L'+1)/\cP N.cells R/\aI H' L' (be N (aH N.cells R).cells (aH N.cells R).rep)/\ai H H':=by
  let Q0:AV->Hp->Prop:=fun v H'=>∃ R L',v= .ref (L'+1)/\cP N.cells R/\aI H' L' (be N (aH N.cells R).cells (aH N.cells R).rep)/\ai H H'
  refine bQ (Q:=Q0) (fn:=fA) rfl rfl ?_;unfold fA;have hcomb:=fun (h:Hp) (q:aI h L N)=>ls (n:=n+6) q hs hu rk hr;have hcomp:=fun m c h it i l x gd r M rep=>sC (n:=n+8) (r:=r) (M:=M) (rep:=rep) (m:=m) (c:=c) (h:=h) (it:=it) (i:=i) (l:=l) (x:=x) (gd:=gd);have hsf:=fun k out oins ins p h inv r M=>pq (W:=1000) (n:=n) (r:=r) (N:=M) (k:=k) (out:=out) (oins:=oins) (ins:=ins) (p:=p) (inv:=inv) (H:=h);have hreb:=fun rc r M cells rep h (q:aI h L N)=>f6 (n:=n+6) (rc:=rc) (r:=r) (M:=M) (cells:=cells) (rep:=rep) q hs;simp only[FO,Nat.reduceAdd]at hcomb hcomp hsf hreb;generalize ad P 1000 (n+9)=cl at *;simp only[mN,mC,dR,dS,DY,Ee,Nat.reduceSub,t5,Ar,Bg];have at0:=q.attr;have hn20:=hs.cc;refine ac (v:= .ref H.length) (h1:=H++[.list (N.cells.map aj.v)]) (m1:=[DJ (.ref (L+1)),DJ (.ref H.length),none,none,none,none,none,none,none,none]) (by simp only[aB,cV,cO,aw,aA,oB,at0,oM,jY q.cel]) rfl ?_;refine ac (v:= .ref (H.length+1)) (h1:=(H++[.list (N.cells.map aj.v)])++[.dict []]) (m1:=[DJ (.ref (L+1)),DJ (.ref H.length),DJ (.ref (H.length+1)),none,none,none,none,none,none,none]) (by simp only[vI,aw,oB,fz,DU,Ex];rfl) rfl ?_;refine ac (v:= .ref (H.length+2)) (h1:=((H++[.list (N.cells.map aj.v)])++[.dict []])++[.dict []]) (m1:=[DJ (.ref (L+1)),DJ (.ref H.length),DJ (.ref (H.length+1)),DJ (.ref (H.length+2)),none,none,none,none,none,none]) (by simp only[vI,aw,oB,fz,DU,Ex];rfl) rfl ?_;refine yF (D1 _ _ _) ?_;refine yF (D1 _ _ _) ?_;have k0:ai H (H++([AO.list (N.cells.map aj.v)]++([AO.dict []]++[AO.dict []]))):=ai.push _ _;have w0:(H++([AO.list (N.cells.map aj.v)]++([AO.dict []]++[AO.dict []])))[H.length]? =DJ (.list (N.cells.map aj.v)):=au;have u0:(H++([AO.list (N.cells.map aj.v)]++([AO.dict []]++[AO.dict []])))[H.length+1]? =DJ (.dict []):=eA;have l0:(H++([AO.list (N.cells.map aj.v)]++([AO.dict []]++[AO.dict []])))[H.length+2]? =DJ (.dict []):=eA;have g0:(H++([AO.list (N.cells.map aj.v)]++([AO.dict []]++[AO.dict []]))).length=H.length+3:=by simp
  generalize H++([AO.list (N.cells.map aj.v)]++([AO.dict []]++[AO.dict []]))=h0 at *;have q0:=q.keep k0;refine iC (hcomb h0 q0) fun a h1 R c1 c2 c3 c4 c5=>?_;have fo:=hf R c4;have hRl:R.length<=20:=by
   have h1:=c4.len;have h2:=EI (fun i=> !bh (cA N.cells i).kind) (Ec N.cells.length);rw[E8]at h2;unfold bj at h1;exact bS (nat_lit 402044494789819507557826) tt h1 h2 hn20
  let St1:Nat->aZ->Hp->Prop:=fun p m h=>(∃ x4 x5 x6 x7 x8 x9,m=[DJ (.ref (L+1)),DJ (.ref H.length),DJ (.ref (H.length+1)),DJ (.ref (H.length+2)),x4,x5,x6,x7,x8,x9])/\ai H h/\h[H.length]? =DJ (.list ((aH N.cells (R.take p)).cells.map aj.v))/\aY h (H.length+1) (aH N.cells (R.take p)).rep (2 * p)/\aY h (H.length+2) (aH N.cells (R.take p)).inv (2 * p)/\h[a]? =DJ (.list (az R))
  refine dM (x:= .ref a) (vs:=az R) (gd:=DJ (a,.list (az R))) (h1:=h1) St1
   (aJ (vs:=[.ref (L+1)]) (h1:=h0) rfl c1) (aF _ _ _ c3) ⟨⟨none,none,none,none,none,none,rfl⟩,k0.trans c2,c2 _ _ w0,⟨[],c2 _ _ u0,by simp,fun x=>rfl⟩,⟨[],c2 _ _ l0,by simp,fun x=>rfl⟩,c3⟩ (fun p m h _ s=>by unfold av;simp[s.2.2.2.2.2]) ?_ ?_
  ·intro p v m h hv z6;refine yI z6 fun z190 a1 a2 a3 a4 a5=>?_;clear z6;refine eT z190 fun x4 x5 x6 x7 z265=>?_;clear z190;refine eR z265 fun x8 x9 z322=>?_;clear z265;subst z322;have hpl:=(gS.mp hv).1;rw[bT]at hpl;have hRp:R[p]? =DJ R[p]:=gE hpl;rw[show az R=R.map fun (i:Nat)=>AV.int i from rfl,DX,hRp]at hv;have hch:=fo.ch p (EK hpl);have hok:=fo.ok p _ hRp;have hnn:=fo.nn p _ hRp;have hst:aH N.cells (R.take (p+1))=et (aH N.cells (R.take p)) R[p]:=by (refine yF (bn hRp) ?_;refine DK (mL _ _ _) ?_;rfl)
   have hil:R[p]<(aH N.cells (R.take p)).cells.length:=by
    refine yF (n8 _ _) ?_;have:=(c4.mem R[p]).mp (Ey hpl);unfold bj at this;rw[E5,E7]at this;exact this.1
   generalize R[p]=i at *;simp only[oM,D7]at hv;subst hv;dsimp only[St1];refine yF hst ?_;have hFd:gU (aH N.cells (R.take p)) i=ck (cA (aH N.cells (R.take p)).cells i).kind (cA (aH N.cells (R.take p)).cells i).param ((cA (aH N.cells (R.take p)).cells i).ins.map (fin (aH N.cells (R.take p)).rep)) (aH N.cells (R.take p)).inv:=rfl;have hSd:et (aH N.cells (R.take p)) i=_:=rfl;generalize aH N.cells (R.take p)=s at *;have hgc:(s.cells.map aj.v)[i]? =DJ (cA s.cells i).v:=by (refine DK DX ?_;refine yF (gQ hil) ?_);rfl
   have hlen3:=du hok;generalize hcc:cA s.cells i=c at *;refine⟨[DJ (.ref (L+1)),DJ (.ref H.length),DJ (.ref (H.length+1)),DJ (.ref (H.length+2)),DJ (.int i),x5,x6,x7,x8,x9],rfl,?_⟩;refine ac (v:=c.v) (h1:=h) (m1:=[DJ (.ref (L+1)),DJ (.ref H.length),DJ (.ref (H.length+1)),DJ (.ref (H.length+2)),DJ (.int i),DJ c.v,x6,x7,x8,x9]) (by simp only[aB,aU,bD,oB,er a2,hgc]) rfl ?_;refine ac (v:= .int c.out) (h1:=h) (m1:=[DJ (.ref (L+1)),DJ (.ref H.length),DJ (.ref (H.length+1)),DJ (.ref (H.length+2)),DJ (.int i),DJ c.v,DJ (.int c.out),x7,x8,x9]) (by simp only[bd,aB,aU,bD,oB];unfold aj.v;simp only[cQ,nK,oB]) rfl ?_;have hcp:=hcomp [DJ (.ref (L+1)),DJ (.ref H.length),DJ (.ref (H.length+1)),DJ (.ref (H.length+2)),DJ (.int i),DJ c.v,DJ (.int c.out),x7,x8,x9] [] h (.sub (.loc 5) (.const (.int 2))) 2 c.ins (.tup (aa c.ins)) none (H.length+1) (2 * p) s.rep a3 hch (by simp only[bd,aB,aU,bD,oB];unfold aj.v;simp only[cQ,qH,oB]) rfl rfl (dm (nat_lit 11706403474880) tt hlen3.2) rfl;have k1:=ai.push h [.list (aa (c.ins.map (fin s.rep)))];have hbt:pH (h++[.list (aa (c.ins.map (fin s.rep)))]) .tuple [.ref h.length]=DJ (.tup (aa (c.ins.map (fin s.rep))),h++[.list (aa (c.ins.map (fin s.rep)))]):=sB (bO _ _);refine ac (v:= .tup (aa (c.ins.map (fin s.rep)))) (h1:=h++[.list (aa (c.ins.map (fin s.rep)))]) (m1:=[DJ (.ref (L+1)),DJ (.ref H.length),DJ (.ref (H.length+1)),DJ (.ref (H.length+2)),DJ (.int i),DJ c.v,DJ (.int c.out),DJ (.tup (aa (c.ins.map (fin s.rep)))),x8,x9]) (by simp only[cO,aw,aA,oB,hcp,hbt]) rfl ?_;have a1:=a1.trans k1;have a2:=k1 _ _ a2;have a3:=a3.keep k1;have a4:=a4.keep k1;have a5:=k1 _ _ a5;clear hcp k1 hbt;generalize h++[AO.list (aa (c.ins.map (fin s.rep)))]=h1 at *;refine aq (hsf c.kind c.out c.ins (c.ins.map (fin s.rep)) c.param h1 s.inv (H.length+2) (2 * p) (by refine yF (DR _) ?_;exact hok) (fun x hx=>by (refine af (Es.mp hx) fun y hy z3=>?_;subst z3);exact hnn y hy) a4) fun T hT=>?_;rw[<- hFd]at hT;have k2:=ai.push h1 T;have a1:=a1.trans k2;have a2:=k2 _ _ a2;have a3:=a3.keep k2;have a4:=a4.keep k2;have a5:=k2 _ _ a5;clear k2;generalize h1++T=h2 at *;have hFne:(gU s i).ins≠[]:=by refine yF hFd ?_;exact xx (nY (fun e=>by rw[map_eq_nil_iff]at e;rw[e]at hlen3;simp at hlen3))
   unfold et at hSd ⊢;clear hSd;refine yF hcc ?_;generalize gU s i=f at *;clear hFd;obtain⟨fk,fi,fp⟩:=f;obtain⟨b,fl,rfl⟩:∃ b fl,fi=b::fl:=by
    cases fi with
    | nil=>exact absurd rfl hFne
    | cons b fl=>exact ⟨b,fl,rfl⟩
   refine ac (v:=F3.v ⟨fk,b::fl,fp⟩) (h1:=h2) (m1:=[DJ (.ref (L+1)),DJ (.ref H.length),DJ (.ref (H.length+1)),DJ (.ref (H.length+2)),DJ (.int i),DJ c.v,DJ (.int c.out),DJ (.tup (aa (b::fl))),DJ (.str fk),DJ fp]) (aJ (vs:=[c.v,.tup (aa (c.ins.map (fin s.rep))),.ref (H.length+2)]) (h1:=h1) rfl hT) (by unfold F3.v;simp only[sg,pg,hU,yV,yW,oB,oM]) ?_;have hgd:(b::fl).getD 0 0=b:=rfl;simp only[hgd];refine cg (c:=decide (fk=aP)) (h1:=h2) (by simp only[bd,aB,aU,aK,cW,cq,bt,bG,oB]) ?_ ?_
   ·intro e;have e:=of_decide_eq_true e;refine yF (if_pos e) ?_;refine af (a3.put c.out b (bu (nat_lit 15658160012825528981395131604998440385) tt hpl hRl hpl hRl)) fun o o1 o2=>?_;refine bk (v:= .int b) (x:= .ref (H.length+1)) (y:= .int c.out) (h1:=h2) (h2:=h2) (h3:=h2) rfl rfl rfl o1 (bz ⟨by simp,⟨_,_,_,_,_,_,rfl⟩,a1.set (D5 _ _),?_,o2.mono (dm (nat_lit 12147809244967178895950) tt),(a4.other (D4 (dm (nat_lit 12389303207360) tt))).mono (dm (nat_lit 370721717680898638) tt),?_⟩)
    ·refine yF (gN (Fb _)) ?_;exact a2
    ·refine yF (gN (by with_unfolding_all exact D4 (bS (nat_lit 13033252954813216401442) tt g0 c5))) ?_;exact a5
   ·intro e;have e:=of_decide_eq_false e;refine yF (if_neg e) ?_;have hsl:dq h2 (.ref H.length) (.int i) (aj.v ⟨fk,c.out,b::fl,fp⟩)=DJ (h2.set H.length (.list ((s.cells.set i ⟨fk,c.out,b::fl,fp⟩).map aj.v))):=by
     simp only[sh,a2];refine yF (if_pos ⟨FL _,by simpa using hil⟩) ?_;dsimp only[F9];refine yB Ou ?_;rfl
    refine bk (v:=aj.v ⟨fk,c.out,b::fl,fp⟩) (x:= .ref H.length) (y:= .int i) (h1:=h2) (h2:=h2) (h3:=h2) (by simp only[aB,aU,cG,aw,aA,oB]<;>rfl) rfl rfl hsl ?_;have a1:=a1.set (o:= .list ((s.cells.set i ⟨fk,c.out,b::fl,fp⟩).map aj.v)) (DV _);have a2':(h2.set H.length (.list ((s.cells.set i ⟨fk,c.out,b::fl,fp⟩).map aj.v)))[H.length]? =DJ (.list ((s.cells.set i ⟨fk,c.out,b::fl,fp⟩).map aj.v)):=bH _ _ _ (gS.mp a2).1;have a3:=a3.other (r2:=H.length) (o:= .list ((s.cells.set i ⟨fk,c.out,b::fl,fp⟩).map aj.v)) (D4 (dm (nat_lit 378058752) tt));have a4:=a4.other (r2:=H.length) (o:= .list ((s.cells.set i ⟨fk,c.out,b::fl,fp⟩).map aj.v)) (D4 (dm (nat_lit 378091520) tt));have a5:(h2.set H.length (.list ((s.cells.set i ⟨fk,c.out,b::fl,fp⟩).map aj.v)))[a]? =DJ (.list (az R)):=by refine DK (gN (by with_unfolding_all exact D4 (bS (nat_lit 397457256515446818) tt g0 c5))) ?_;exact a5
    generalize h2.set H.length (AO.list ((s.cells.set i ⟨fk,c.out,b::fl,fp⟩).map aj.v))=h3 at *;refine cg (c:=decide (fk=bC)) (h1:=h3) (by simp only[bd,aB,aU,aK,cW,cq,bt,bG,oB]) ?_ ?_
    ·intro e2;have e2:=of_decide_eq_true e2;refine yF (if_pos e2) ?_;refine af (a4.put c.out b (bu (nat_lit 15658160012825528981395131604998440385) tt hpl hRl hpl hRl)) fun o o1 o2=>?_;refine af (o2.put b c.out (bu (nat_lit 513086586686513030000498768890110608557505) tt hpl hRl hpl hRl)) fun o' p1 p2=>?_;refine bk (v:= .int b) (x:= .ref (H.length+2)) (y:= .int c.out) (h1:=h3) (h2:=h3) (h3:=h3) rfl rfl rfl o1 ?_;refine bk (v:= .int c.out) (x:= .ref (H.length+2)) (y:= .int b) (h1:=h3.set (H.length+2) o) (h2:=h3.set (H.length+2) o) (h3:=h3.set (H.length+2) o) rfl rfl rfl p1 (cS (bz ⟨by simp,⟨_,_,_,_,_,_,rfl⟩,(a1.set (D5 _ _)).set (D5 _ _),?_,((a3.other (Fb _)).other (Fb _)).mono (dm (nat_lit 370721717680898638) tt),p2.mono (dm (nat_lit 398059413339084517554815566) tt),?_⟩))
     ·refine yF (gN (by with_unfolding_all exact Ep (dm (nat_lit 378091520) tt))) ?_;refine DK (gN (by with_unfolding_all exact Ep (dm (nat_lit 378091520) tt))) ?_;exact a2'
     ·refine yF (gN (by with_unfolding_all exact D4 (bS (nat_lit 13033288983610235365410) tt g0 c5))) ?_;refine DK (gN (by with_unfolding_all exact D4 (bS (nat_lit 13033288983610235365410) tt g0 c5))) ?_;exact a5
    ·intro e2;have e2:=of_decide_eq_false e2;refine yF (if_neg e2) ?_;exact cS (bz ⟨by simp,⟨_,_,_,_,_,_,rfl⟩,a1,a2',a3.mono (dm (nat_lit 370721717680898638) tt),a4.mono (dm (nat_lit 370721717680898638) tt),a5⟩)
  ·intro m h z3;refine yI z3 fun z100 a1 a2 a3 a4 a5=>?_;clear z3;refine eT z100 fun x4 x5 x6 x7 z175=>?_;clear z100;refine eR z175 fun x8 x9 z232=>?_;clear z175;subst z232;rw[bT,Ef]at a2 a3 a4;have hch:=fo.ch R.length (DV _);rw[Ef]at hch;refine aW (hreb H.length (H.length+1) (2 * R.length) (aH N.cells R).cells (aH N.cells R).rep h (q.keep a1) a2 (by refine yF (n8 _ _) ?_;exact DO hn20 (by decide)) fo.li a3 hch) fun L' h' d1 d2 d3=>?_;exact bK (v:= .ref (L'+1)) (h1:=h') (aJ (vs:=[.ref (L+1),.ref H.length,.ref (H.length+1)]) (h1:=h) rfl d1) (Ed ⟨_,rfl,R,L',rfl,c4,d2,a1.trans d3⟩)
 exact⟨R,L',H',e,r1,r2,r3⟩
structure BS where
 rep:Int->Option Int
 inv:Int->Option Int
noncomputable def iJ(l:List aj)(s:BS)(i:Nat):BS:=
 if (cA l i).kind=aP then ⟨upd s.rep (cA l i).out (fin s.rep ((cA l i).ins.getD 0 0)),s.inv⟩
 else if (cA l i).kind=bC then (match s.inv (fin s.rep ((cA l i).ins.getD 0 0)) with
  | some y=>⟨upd s.rep (cA l i).out y,s.inv⟩
  | none=>⟨s.rep,upd s.inv (cA l i).out (fin s.rep ((cA l i).ins.getD 0 0))⟩) else s
noncomputable def cT(l:List aj)(R:List Nat):BS:=R.foldl (iJ l) ⟨fun _=>none,fun _=>none⟩
theorem mM(l:List aj)(R:List Nat)(i:Nat):cT l (R++[i])=iJ l (cT l R) i:=by unfold cT;refine DK Ga ?_;rfl
structure uc(N:NL)(R:List Nat):Prop where
 ch:∀ p,p<=R.length->nZ (cT N.cells (R.take p)).rep
 ok:∀ i∈R,(cA N.cells i).kind=aP\/(cA N.cells i).kind=bC->(cA N.cells i).ins≠[]
theorem wc(o:cP l R):R.length<=l.length:=by
 have h1:=o.len;have h2:=EI (fun i=> !bh (cA l i).kind) (Ec l.length);rw[E8]at h2;unfold bj at h1;exact bS (nat_lit 11029880776738) tt h1 h2
theorem xy(o:cP l R)(h:i∈R):i<l.length:=by
 have:=(o.mem i).mp h;unfold bj at this;rw[E5,E7]at this;exact this.1
theorem n9(q:aI H L N)(hs:gP N)(hu:(bq N++outs N).Nodup)(rk:Nat->Nat)(hr:∀ i∈bj N.cells,∀ b∈pre N.cells i,rk b<rk i)(hf:∀ R,cP N.cells R->uc N R):
  ∃ R L' H',ad P 1000 (n+5) 37 [.ref (L+1)] H=DJ (.ref (L'+1),H')/\cP N.cells R/\aI H' L' (be N N.cells (cT N.cells R).rep)/\ai H H':=by
 obtain⟨v,H',e,R,L',rfl,r1,r2,r3⟩:∃ v H',ad P 1000 (n+5) 37 [.ref (L+1)] H=DJ (v,H')/\∃ R L',v= .ref (L'+1)/\cP N.cells R/\aI H' L' (be N N.cells (cT N.cells R).rep)/\ai H H':=by
  let Q0:AV->Hp->Prop:=fun v H'=>∃ R L',v= .ref (L'+1)/\cP N.cells R/\aI H' L' (be N N.cells (cT N.cells R).rep)/\ai H H'
  refine bQ (Q:=Q0) (fn:=gH) rfl rfl ?_;unfold gH;have hcomb:=fun (h:Hp) (q:aI h L N)=>ls (n:=n+1) q hs hu rk hr;have hfin:=fun r M rep x h=>mJ (n:=n+3) (r:=r) (N:=M) (rep:=rep) (x:=x) (H:=h);have hreb:=fun r M rep h (q:aI h L N)=>v8 (n:=n) (r:=r) (M:=M) (rep:=rep) q hs;simp only[FO,Nat.reduceAdd]at hcomb hfin hreb;generalize ad P 1000 (n+4)=cl at *;simp only[mN,mC,dR,dS,DY,Ee,Nat.reduceSub,t5,Ar,Bg];have hn20:=hs.cc;refine ac (v:= .ref H.length) (h1:=H++[.dict []]) (m1:=[DJ (.ref (L+1)),DJ (.ref H.length),none,none,none,none,none,none,none]) rfl rfl ?_;refine ac (v:= .ref (H.length+1)) (h1:=(H++[.dict []])++[.dict []]) (m1:=[DJ (.ref (L+1)),DJ (.ref H.length),DJ (.ref (H.length+1)),none,none,none,none,none,none]) (by simp only[vI,aw,oB,fz,DU,Ex];rfl) rfl ?_;refine yF (D1 _ _ _) ?_;have k0:ai H (H++([AO.dict []]++[AO.dict []])):=ai.push _ _;have u0:(H++([AO.dict []]++[AO.dict []]))[H.length]? =DJ (.dict []):=au;have l0:(H++([AO.dict []]++[AO.dict []]))[H.length+1]? =DJ (.dict []):=eA;have g0:(H++([AO.dict []]++[AO.dict []])).length=H.length+2:=by simp
  generalize H++([AO.dict []]++[AO.dict []])=h0 at *;have q0:=q.keep k0;refine iC (hcomb h0 q0) fun a h1 R c1 c2 c3 c4 c5=>?_;have fo:=hf R c4;have hRl:=wc c4;let St1:Nat->aZ->Hp->Prop:=fun p m h=>(∃ x3 x4 x5 x6 x7 x8,m=[DJ (.ref (L+1)),DJ (.ref H.length),DJ (.ref (H.length+1)),x3,x4,x5,x6,x7,x8])/\ai H h/\aY h H.length (cT N.cells (R.take p)).rep p/\aY h (H.length+1) (cT N.cells (R.take p)).inv p/\h[a]? =DJ (.list (az R))
  refine dM (x:= .ref a) (vs:=az R) (gd:=DJ (a,.list (az R))) (h1:=h1) St1
   (aJ (vs:=[.ref (L+1)]) (h1:=h0) rfl c1) (aF _ _ _ c3) ⟨⟨none,none,none,none,none,none,rfl⟩,k0.trans c2,⟨[],c2 _ _ u0,by simp,fun x=>rfl⟩,⟨[],c2 _ _ l0,by simp,fun x=>rfl⟩,c3⟩ (fun p m h _ s=>by unfold av;simp[s.2.2.2.2]) ?_ ?_
  ·intro p v m h hv z6;refine nw z6 fun z190 a1 a3 a4 a5=>?_;clear z6;refine eT z190 fun x3 x4 x5 x6 z265=>?_;clear z190;refine eR z265 fun x7 x8 z322=>?_;clear z265;subst z322;have hpl:=(gS.mp hv).1;rw[bT]at hpl;have hRp:R[p]? =DJ R[p]:=gE hpl;rw[show az R=R.map fun (i:Nat)=>AV.int i from rfl,DX,hRp]at hv;have hch:=fo.ch p (EK hpl);have hok:=fo.ok _ (Ey hpl);have hst:cT N.cells (R.take (p+1))=iJ N.cells (cT N.cells (R.take p)) R[p]:=by (refine yF (bn hRp) ?_;refine DK (mM _ _ _) ?_;rfl)
   have hil:=xy c4 (Ey hpl);generalize R[p]=i at *;simp only[oM,D7]at hv;subst hv;dsimp only[St1];refine yF hst ?_;generalize cT N.cells (R.take p)=s at *;have q1:=q.keep a1;have at1:=q1.attr;have hcs:=gT q1 hil;unfold iJ;generalize cA N.cells i=c at *;refine⟨[DJ (.ref (L+1)),DJ (.ref H.length),DJ (.ref (H.length+1)),DJ (.int i),x4,x5,x6,x7,x8],rfl,?_⟩;refine ac (v:=c.v) (h1:=h) (m1:=[DJ (.ref (L+1)),DJ (.ref H.length),DJ (.ref (H.length+1)),DJ (.int i),DJ (.str c.kind),DJ (.int c.out),DJ (.tup (aa c.ins)),DJ c.param,x8]) (by simp only[aB,aU,cV,bD,oB,at1,hcs]) (by unfold aj.v;simp only[sg,pg,hU,yV,yW,oB,oM]) ?_;refine cg (c:=decide (c.kind=aP)) (h1:=h) (by simp only[bd,aB,aU,aK,cW,cq,bt,bG,oB]) ?_ ?_
   ·intro e;have e:=of_decide_eq_true e;obtain⟨b,bl,hb⟩:∃ b bl,c.ins=b::bl:=by
     cases hc:c.ins with
     | nil=>exact absurd hc (hok (Ed e))
     | cons b bl=>exact ⟨b,bl,rfl⟩
    refine yF (if_pos e) ?_;refine yF hb ?_;have hgd:(b::bl).getD 0 0=b:=rfl;simp only[hgd];have hfn:=hfin H.length p s.rep b h a3 hch;refine af (a3.put c.out (fin s.rep b) (bS (nat_lit 14241013258689709737657794) tt hpl hRl hn20)) fun o o1 o2=>?_;refine bk (v:= .int (fin s.rep b)) (x:= .ref H.length) (y:= .int c.out) (h1:=h) (h2:=h) (h3:=h) (by simp only[bd,aB,aU,bD,ej,aw,aA,cQ,iW,oB,aa,mC,hfn]) rfl rfl o1 (bz ⟨by simp,⟨_,_,_,_,_,_,rfl⟩,a1.set (DV _),o2,(a4.other (D4 (dm (nat_lit 378058752) tt))).mono (D5 _ _),?_⟩);refine yF (gN (by with_unfolding_all exact D4 (bS (nat_lit 397457255441704994) tt g0 c5))) ?_;exact a5
   ·intro e;have e:=of_decide_eq_false e;refine yF (if_neg e) ?_;refine cg (c:=decide (c.kind=bC)) (h1:=h) (by simp only[bd,aB,aU,aK,cW,cq,bt,bG,oB]) ?_ ?_
    ·intro e2;have e2:=of_decide_eq_true e2;refine yF (if_pos e2) ?_;obtain⟨b,bl,hb⟩:∃ b bl,c.ins=b::bl:=by
      cases hc:c.ins with
      | nil=>exact absurd hc (hok (Ew e2))
      | cons b bl=>exact ⟨b,bl,rfl⟩
     refine yF hb ?_;have hgd:(b::bl).getD 0 0=b:=rfl;simp only[hgd];have hfn:=hfin H.length p s.rep b h a3 hch;refine ac (v:= .int (fin s.rep b)) (h1:=h) (m1:=[DJ (.ref (L+1)),DJ (.ref H.length),DJ (.ref (H.length+1)),DJ (.int i),DJ (.str c.kind),DJ (.int c.out),DJ (.tup (aa (b::bl))),DJ c.param,DJ (.int (fin s.rep b))]) (by simp only[bd,aB,aU,bD,ej,aw,aA,cQ,iW,oB,aa,mC,hfn]) rfl ?_;generalize fin s.rep b=y at *;refine cg (c:=(s.inv y).isSome) (h1:=h) (by simp only[aB,aU,aK,cW,cq,kF,oB,a4.has]) ?_ ?_
     ·intro e3;refine aq (HO.mp e3) fun z hz=>?_;simp only[hz];refine af (a3.put c.out z (bS (nat_lit 14241013258689709737657794) tt hpl hRl hn20)) fun o o1 o2=>?_;refine bk (v:= .int z) (x:= .ref H.length) (y:= .int c.out) (h1:=h) (h2:=h) (h3:=h) (by simp only[aB,aU,bD,oB,a4.sub hz]) rfl rfl o1 (cS (cS (bz ⟨by simp,⟨_,_,_,_,_,_,rfl⟩,a1.set (DV _),o2,(a4.other (D4 (dm (nat_lit 378058752) tt))).mono (D5 _ _),?_⟩)));refine yF (gN (by with_unfolding_all exact D4 (bS (nat_lit 397457255441704994) tt g0 c5))) ?_;exact a5
     ·intro e3;have hz:s.inv y=none:=by simpa using e3
      simp only[hz];refine af (a4.put c.out y (bS (nat_lit 14241013258689709737657794) tt hpl hRl hn20)) fun o o1 o2=>?_;refine bk (v:= .int y) (x:= .ref (H.length+1)) (y:= .int c.out) (h1:=h) (h2:=h) (h3:=h) rfl rfl rfl o1 (cS (cS (bz ⟨by simp,⟨_,_,_,_,_,_,rfl⟩,a1.set (D5 _ _),(a3.other (Fb _)).mono (D5 _ _),o2,?_⟩)));refine yF (gN (by with_unfolding_all exact D4 (bS (nat_lit 13033252954812142659618) tt g0 c5))) ?_;exact a5
    ·intro e2;have e2:=of_decide_eq_false e2;refine yF (if_neg e2) ?_;exact cS (bz ⟨by simp,⟨_,_,_,_,_,_,rfl⟩,a1,a3.mono (D5 _ _),a4.mono (D5 _ _),a5⟩)
  ·intro m h z3;refine nw z3 fun z100 a1 a3 a4 a5=>?_;clear z3;refine eT z100 fun x3 x4 x5 x6 z175=>?_;clear z100;refine eR z175 fun x7 x8 z232=>?_;clear z175;subst z232;rw[bT,Ef]at a3 a4;have hch:=fo.ch R.length (DV _);rw[Ef]at hch;refine aW (hreb H.length R.length (cT N.cells R).rep h (q.keep a1) a3 hch) fun L' h' d1 d2 d3=>?_;exact bK (v:= .ref (L'+1)) (h1:=h') (aJ (vs:=[.ref (L+1),.ref H.length]) (h1:=h) rfl d1) (Ed ⟨_,rfl,R,L',rfl,c4,d2,a1.trans d3⟩)
 exact⟨R,L',H',e,r1,r2,r3⟩
noncomputable def kK(N:NL)(C:Nat->Prop):Prop:=(∀ x∈ar N.outputs,∀ b,eP N.cells x=DJ b->C b)/\(∀ i,C i->i<N.cells.length->∀ x∈(cA N.cells i).ins,∀ b,eP N.cells x=DJ b->C b)
structure dN(N:NL)(S:List Nat):Prop where
 nd:S.Nodup
 lt:∀ i∈S,i<N.cells.length
 cl:kK N (· ∈S)
 mn:∀ C,kK N C->∀ i∈S,C i
structure kL(N:NL)(S:List Nat)(P:List Int):Prop where
 nd:S.Nodup
 lt:∀ i∈S,i<N.cells.length
 c1:∀ x∈ar N.outputs,x∈P\/∀ b,eP N.cells x=DJ b->b∈S
 c2:∀ i∈S,∀ x∈(cA N.cells i).ins,x∈P\/∀ b,eP N.cells x=DJ b->b∈S
 mn:∀ C,kK N C->∀ i∈S,C i
 mp:∀ C,kK N C->∀ x∈P,∀ b,eP N.cells x=DJ b->C b
theorem kL.len{S:List Nat}{P:List Int}(u:kL N S P):S.length<=N.cells.length:=by
 have:=Gi u.nd (l₂:=Ec N.cells.length) (fun i hi=>by rewrite[E7];exact u.lt i hi);rwa [E8]at this
theorem kL.init(N:NL):kL N [] (ar N.outputs):=⟨Ip,fun i hi=>by simp at hi,fun x hx=>Ed hx,fun i hi=>by simp at hi,fun C _ i hi=>by simp at hi,fun C hC x hx b hb=>hC.1 x hx b hb⟩
theorem kL.done{N:NL}{S:List Nat}(u:kL N S []):dN N S:=by
 refine⟨u.nd,u.lt,⟨fun x hx b hb=> ?_,fun i hi _ x hx b hb=> ?_⟩,u.mn⟩
 ·rcases u.c1 x hx with h | h
  ·simp at h
  ·exact h b hb
 ·rcases u.c2 i hi x hx with h | h
  ·simp at h
  ·exact h b hb
theorem kL.pop{S:List Nat}{P:List Int}{x:Int}(u:kL N S (P++[x]))(h:∀ b,eP N.cells x=DJ b->b∈S):kL N S P:=by
 refine⟨u.nd,u.lt,fun y hy=> ?_,fun i hi y hy=> ?_,u.mn,fun C hC y hy=>u.mp C hC y (Fv _ hy)⟩
 ·rcases u.c1 y hy with a | a
  ·rw[DZ,DT]at a;rcases a with a | rfl
   ·exact Ed a
   ·exact Ew h
  ·exact Ew a
 ·rcases u.c2 i hi y hy with a | a
  ·rw[DZ,DT]at a;rcases a with a | rfl
   ·exact Ed a
   ·exact Ew h
  ·exact Ew a
theorem kL.add{S:List Nat}{P:List Int}{x:Int}{b:Nat}(u:kL N S (P++[x]))(h:eP N.cells x=DJ b)(hl:b<N.cells.length)(hb:b∉S):kL N (S++[b]) (P++(cA N.cells b).ins):=by
 have key:∀ y,(y∈P++[x]\/∀ c,eP N.cells y=DJ c->c∈S)->(y∈P++(cA N.cells b).ins\/∀ c,eP N.cells y=DJ c->c∈S++[b]):=by
  intro y a;rcases a with a | a
  ·rw[DZ,DT]at a;rcases a with a | rfl
   ·exact Ed (Fv _ a)
   ·right
    intro c hc;rw[h]at hc;refine jA hc ?_;simp
  ·right
   intro c hc;exact Fv _ (a c hc)
 refine⟨?_,fun i hi=> ?_,fun y hy=>key y (u.c1 y hy),fun i hi y hy=> ?_,fun C hC i hi=> ?_,fun C hC y hy c hc=> ?_⟩
 ·rewrite[Fa];refine⟨u.nd,by simp,fun a ha c hc e=> ?_⟩;rw[DT]at hc;subst hc e;exact hb ha
 ·rw[DZ,DT]at hi;rcases hi with hi | rfl
  ·exact u.lt i hi
  ·exact hl
 ·rw[DZ,DT]at hi;rcases hi with hi | rfl
  ·exact key y (u.c2 i hi y hy)
  ·exact Ed (Fj _ hy)
 ·have hCb:=u.mp C hC x (by simp) b h;rw[DZ,DT]at hi;rcases hi with hi | rfl
  ·exact u.mn C hC i hi
  ·exact hCb
 ·have hCb:=u.mp C hC x (by simp) b h;rw[DZ]at hy;rcases hy with hy | hy
  ·exact u.mp C hC y (Fv _ hy) c hc
  ·exact hC.2 b hCb hl y hy c hc
noncomputable def ms(S:List Nat):List Int:=S.map fun (i:Nat)=>(i:Int)
theorem oe{S:List Nat}{b:Nat}:((b:Int)∈ms S)↔b∈S:=by
 unfold ms;rewrite[Es];constructor
 ·intro z1;refine af z1 fun x hx e=>?_;clear z1;have:x=b:=by lia
  refine yB this ?_;exact hx
 ·intro h;exact⟨b,h,rfl⟩
theorem gV(h:∀ p∈l,p.2.length<=20):(ar l).length<=20 * l.length:=by
 induction l with
 | nil=>simp[ar]
 | cons p l ih=>
  have h1:=h p (by simp);have h2:=ih (fun q hq=>h q (by simp[hq]));unfold ar at *;refine yF Fo ?_;refine yF DU ?_;dsimp only[D6];exact bS (nat_lit 427413043096172208024226309935351232) tt h2 h1
theorem iK(a b:List Int):aa a++aa b=aa (a++b):=by unfold aa;refine yF Ez ?_;rfl
theorem aQ(a:List Int):(aa a).length=a.length:=DR _
theorem lu(q:aI H L N)(hs:gP N)(hu:(bq N++outs N).Nodup):
  ∃ S r M H',ad P 1000 (n+2) 38 [.ref (L+1)] H=DJ (.ref r,H')/\dN N S/\dB H' r (ms S) M/\ai H H':=by
 obtain⟨v,H',e,S,r,M,rfl,r1,r2,r3⟩:∃ v H',ad P 1000 (n+2) 38 [.ref (L+1)] H=DJ (v,H')/\∃ S r M,v= .ref r/\dN N S/\dB H' r (ms S) M/\ai H H':=by
  let Q0:AV->Hp->Prop:=fun v H'=>∃ S r M,v= .ref r/\dN N S/\dB H' r (ms S) M/\ai H H'
  refine bQ (Q:=Q0) (fn:=iU) rfl rfl ?_;unfold iU;refine aW (pQ (W:=1000) (n:=n) q hs hu) fun d h0 d1 d2 d3=>?_;generalize ad P 1000 (n+1)=cl at *;simp only[mN,mC,dR,dS,DY,Ee,Nat.reduceSub,As,t5];have hdl:=d3.lt;refine ac (v:= .ref d) (h1:=h0) (m1:=[DJ (.ref (L+1)),DJ (.ref d),none,none,none,none,none]) (aJ (vs:=[.ref (L+1)]) (h1:=H) rfl d1) rfl ?_;refine ac (v:= .ref h0.length) (h1:=h0++[.dict []]) (m1:=[DJ (.ref (L+1)),DJ (.ref d),DJ (.ref h0.length),none,none,none,none]) rfl rfl ?_;refine ac (v:= .ref (h0.length+1)) (h1:=(h0++[.dict []])++[.list []]) (m1:=[DJ (.ref (L+1)),DJ (.ref d),DJ (.ref h0.length),DJ (.ref (h0.length+1)),none,none,none]) (by simp only[pf,aw,oB,DU,Ex]) rfl ?_;refine yF (D1 _ _ _) ?_;have k0:ai h0 (h0++([AO.dict []]++[AO.list []])):=ai.push _ _;have u0:(h0++([AO.dict []]++[AO.list []]))[h0.length]? =DJ (.dict []):=au;have l0:(h0++([AO.dict []]++[AO.list []]))[h0.length+1]? =DJ (.list []):=eA;generalize h0++([AO.dict []]++[AO.list []])=h1 at *;have q1:=q.keep (d2.trans k0);have at1:=q1.attr;refine af q.outp fun vo o1 o2=>?_;have o3:=d2 _ _ o1;have hol:N.outputs.length<=20:=hs.co;let St2:Nat->aZ->Hp->Prop:=fun j m h=>(∃ x y,m=[DJ (.ref (L+1)),DJ (.ref d),DJ (.ref h0.length),DJ (.ref (h0.length+1)),x,y,none])/\ai h0 h/\h[h0.length]? =DJ (.dict [])/\h[h0.length+1]? =DJ (.list (aa (ar (N.outputs.take j))))
  refine dM (x:= .ref (L+3)) (vs:=vo) (gd:=DJ (L+3,.list vo)) (h1:=h1) St2
   (by simp only[aB,cV,oB,at1]) (aF _ _ _ (k0 _ _ o3)) ⟨⟨none,none,rfl⟩,k0,u0,l0⟩ (fun j m h _ s=>by unfold av;simp[s.2.1 _ _ o3]) ?_ ?_
  ·intro j v m h hv z6;refine eQ z6 fun z190 a1 a2 a3=>?_;clear z6;refine eR z190 fun x y z252=>?_;clear z190;subst z252;have hj:=(gS.mp hv).1;rw[o2.1]at hj;refine aM (o2.2 j _ (gE hj)) fun a b1 b2 b3=>?_;have ht:N.outputs.take (j+1)=N.outputs.take j++[N.outputs[j]]:=by (refine DK E1 ?_;refine yF (gE hj) ?_);rfl
   have hpl:=hs.po _ (Ey hj);generalize N.outputs[j]=p at *;rw[hv]at b2;refine jR b2 ?_;refine⟨[DJ (.ref (L+1)),DJ (.ref d),DJ (.ref h0.length),DJ (.ref (h0.length+1)),DJ (.str p.1),DJ (.ref a),none],rfl,?_⟩;have b4:=a1 _ _ (d2 _ _ b3);have hal:=(gS.mp (d2 _ _ b3)).1;have hnl:=gV (l:=N.outputs.take j) (fun p hp=>hs.po p (FC hp));rw[EG]at hnl;have hev:aC cl (.bm .extend (.loc 3) [(.loc 5)]) [DJ (.ref (L+1)),DJ (.ref d),DJ (.ref h0.length),DJ (.ref (h0.length+1)),DJ (.str p.1),DJ (.ref a),none] [] h=DJ (.none,h.set (h0.length+1) (.list (aa (ar (N.outputs.take j))++aa p.2))):=by
    simp only[aB,aU,mj,aw,aA,oB,if_true,uV a3 (by simp:Me.extend≠ .get),if_true,Dq,fm,a3,b4];refine yF (if_pos ⟨by with_unfolding_all exact Ep (bu (nat_lit 12388230245408) tt hal),by (refine yF (aQ _) ?_;refine yF (aQ _) ?_);exact aV (by lia)⟩) ?_;rfl
   refine cZ hev (aN ⟨by simp,⟨_,_,rfl⟩,a1.set (D5 _ _),?_,?_⟩)
   ·refine yF (gN (Fb _)) ?_;exact a2
   ·refine yF (bH _ _ _ (gS.mp a3).1) ?_;refine yF (iK _ _) ?_;refine yF ht ?_;unfold ar;refine yF FR ?_;refine yF Fo ?_;refine yF G2 ?_;refine yF (EC _) ?_;rfl
  ·intro m h z3;refine eQ z3 fun z100 a1 a2 a3=>?_;clear z3;refine eR z100 fun x y z162=>?_;clear z100;subst z162;rw[o2.1,Ef]at a3;have hnl:=gV (l:=N.outputs) hs.po;have hn20:=hs.cc;let St3:Nat->aZ->Hp->Prop:=fun k m h=>∃ S Pn w,k=Pn.length+20 * (20 - S.length)/\m=[DJ (.ref (L+1)),DJ (.ref d),DJ (.ref h0.length),DJ (.ref (h0.length+1)),x,y,w]/\ai h0 h/\dB h h0.length (ms S) S.length/\h[h0.length+1]? =DJ (.list (aa Pn))/\kL N S Pn/\k<1000
   refine nQ St3
    (fun m h=>∃ S w,m=[DJ (.ref (L+1)),DJ (.ref d),DJ (.ref h0.length),DJ (.ref (h0.length+1)),x,y,w]/\ai h0 h/\dB h h0.length (ms S) S.length/\kL N S []) ((ar N.outputs).length+20 * (20 - ([]:List Nat).length)) (by simp;lia) ⟨[],_,none,rfl,rfl,a1,⟨[],a2,by simp,fun x=>by simp[br,ms]⟩,a3,kL.init N,by simp;lia⟩ ?_ ?_
   ·intro k m h z4;refine Bj z4 fun S Pn w hk z134 a1 a2 a3 u hk2=>?_;clear z4;subst z134;rcases List.eq_nil_or_concat Pn with rfl | ⟨Pq,z,hPq⟩
    ·left
     exact⟨h,by simp only[aB,aU,cW,oB,Aj,a3];rfl,S,w,rfl,a1,a2,u⟩
    ·rw[concat_eq_append]at hPq;obtain⟨Pn2,hPn2⟩:∃ Pn2,Pn2=Pq:=⟨_,rfl⟩;rw[<- hPn2]at hPq;clear hPn2;subst hPq;right
     have hne:(aa (Pn2++[z])).isEmpty=false:=by unfold aa;simp
     refine⟨h,by simp only[aB,aU,cW,oB,Aj,a3,hne];rfl,?_⟩;have hSl:=u.len;have d4:=d3.keep a1;have d5:=d4.other (r2:=h0.length+1) (o:= .list (aa Pn2)) (Ep (bu (nat_lit 12388230245408) tt hdl));have hgl:(aa (Pn2++[z])).getLast? =DJ (.int z):=by unfold aa;refine yF Ez ?_;refine yF mC ?_;refine yF mN ?_;refine DK List.getLast?_concat ?_;rfl
     have hdl2:(aa (Pn2++[z])).dropLast=aa Pn2:=by unfold aa;refine yF Ez ?_;refine yF mC ?_;refine yF mN ?_;refine DK List.dropLast_concat ?_;rfl
     refine ac (v:= .int ((iH N.cells z).getD (-1))) (h1:=h.set (h0.length+1) (.list (aa Pn2))) (m1:=[DJ (.ref (L+1)),DJ (.ref d),DJ (.ref h0.length),DJ (.ref (h0.length+1)),x,y,DJ (.int ((iH N.cells z).getD (-1)))]) (by
      simp only[aB,aU,tN,mj,aw,aA,oB,if_true,d4.ok,if_true,uV a3 (by simp:Me.pop≠ .get)];simp only[Dr,B5,fm,a3,hgl,hdl2,oM,oB];exact d5.get z (-1)) rfl ?_
     have b1:=a1.set (a:=h0.length+1) (o:= .list (aa Pn2)) (D5 _ _);have b2:=a2.other (r2:=h0.length+1) (o:= .list (aa Pn2)) (Fb _);have b3:(h.set (h0.length+1) (.list (aa Pn2)))[h0.length+1]? =DJ (.list (aa Pn2)):=bH _ _ _ (gS.mp a3).1;generalize h.set (h0.length+1) (AO.list (aa Pn2))=h2 at *;rw[DU,Ex]at hk;cases hdr:eP N.cells z with
     | none=>
      have e1:(iH N.cells z).getD (-1)= -1:=by unfold iH;refine yF hdr ?_;rfl
      refine yF e1 ?_;exact fH (h1:=h2) (pR rfl) (aN ⟨by simp,Pn2.length+20 * (20 - S.length),bS (nat_lit 14033638441066620769516344883202) tt hk,S,Pn2,_,rfl,rfl,b1,b2,b3,u.pop (fun b hb=>by rw[hdr]at hb;cases hb),bS (nat_lit 525400664418274966354205337712876152335322562) tt hk hk2⟩)
     | some b=>
      have e1:(iH N.cells z).getD (-1)=b:=by unfold iH;refine yF hdr ?_;rfl
      have hbl:b<N.cells.length:=by
       have hdr':=hdr;unfold eP at hdr';rw[Gf]at hdr';exact hdr'.1
      refine yF e1 ?_;have hge:aC cl (.cmp .ge (.loc 6) (.const (.int 0))) [DJ (.ref (L+1)),DJ (.ref d),DJ (.ref h0.length),DJ (.ref (h0.length+1)),x,y,DJ (.int b)] [] h2=DJ (.bool true,h2):=by
       simp only[bd,aB,aU,aK,yO,oB];try (congr 3;try simp)
      refine cg (c:=true&& !decide ((b:Int)∈ms S)) (h1:=h2) (xd (x:=true) (y:= !decide ((b:Int)∈ms S)) hge (by simp only[aB,aU,aK,sf,oB,oM,b2.has])) ?_ ?_
      ·intro hc;have hbS:b∉S:=by
        intro hb;rw[<- oe]at hb;simp[hb]at hc
       have hu2:=u.add hdr hbl hbS;have hSl2:=hu2.len;rw[DU,Ex]at hSl2;refine af (b2.put b (.bool true) (bu (nat_lit 434601234666864920001) tt hSl hn20)) fun o o1 o2=>?_;refine bk (v:= .bool true) (x:= .ref h0.length) (y:= .int b) (h1:=h2) (h2:=h2) (h3:=h2) rfl rfl rfl o1 ?_;have b1:=b1.set (a:=h0.length) (o:=o) (DV _);have b3:(h2.set h0.length o)[h0.length+1]? =DJ (.list (aa Pn2)):=by refine DK (gN (by with_unfolding_all exact D4 (dm (nat_lit 378058752) tt))) ?_;exact b3
       generalize h2.set h0.length o=h3 at *;have q3:=q.keep (d2.trans b1);have at3:=q3.attr;have hcs:=gT q3 hbl;have hil:=hs.ni _ (bL hbl);have hins:ms (S++[b])=ms S++[(b:Int)]:=by unfold ms;simp
       generalize cA N.cells b=c at *;have hev:aC cl (.bm .extend (.loc 3) [(.sub (.sub (.attr (.loc 0) fZ) (.loc 6)) (.const (.int 2)))]) [DJ (.ref (L+1)),DJ (.ref d),DJ (.ref h0.length),DJ (.ref (h0.length+1)),x,y,DJ (.int b)] [] h3=DJ (.none,h3.set (h0.length+1) (.list (aa Pn2++aa c.ins))):=by
        simp only[bd,aB,aU,cV,bD,mj,aw,aA,cQ,qH,oB,if_true,uV b3 (by simp:Me.extend≠ .get),if_true,at3,hcs,aj.v,Dp,fm,b3];refine yF (if_pos (by (refine yF (aQ _) ?_;refine yF (aQ _) ?_);exact aV (by lia))) ?_;rfl
       refine cZ hev (bz ⟨by simp,Pn2.length+c.ins.length+20 * (20 - (S.length+1)),by lia,S++[b],Pn2++c.ins,_,by simp,rfl,b1.set (D5 _ _),?_,?_,hu2,by lia⟩)
       ·refine yF hins ?_;refine yF DU ?_;dsimp only[Ex];exact o2.other (Fb _)
       ·refine yF (bH _ _ _ (gS.mp b3).1) ?_;refine yF (iK _ _) ?_;rfl
      ·intro hc;have hbS:b∈S:=by
        rewrite[<- oe];simpa using hc
       exact bz ⟨by simp,Pn2.length+20 * (20 - S.length),bS (nat_lit 14033638441066620769516344883202) tt hk,S,Pn2,_,rfl,rfl,b1,b2,b3,u.pop (fun b' hb'=>by rw[hdr]at hb';cases hb';exact hbS),bS (nat_lit 525400664418274966354205337712876152335322562) tt hk hk2⟩
   ·intro m h z3;refine cp z3 fun S w z102 a1 a2 u=>?_;clear z3;subst z102;exact bK (v:= .ref h0.length) (h1:=h) rfl (Ed ⟨_,rfl,S,_,_,rfl,u.done,a2,d2.trans a1⟩)
 exact⟨S,r,M,H',e,r1,r2,r3⟩
noncomputable def aG(l:List aj)(S:List Nat):List aj:=((Ec l.length).filter fun i=>decide (i∈S)).map (cA l)
theorem pv(q:aI H L N)(hs:gP N)(hu:(bq N++outs N).Nodup):
  ∃ S L' H',ad P 1000 (n+4) 39 [.ref (L+1)] H=DJ (.ref (L'+1),H')/\dN N S/\aI H' L' (be N (aG N.cells S) (fun _=>none))/\ai H H':=by
 obtain⟨v,H',e,S,L',rfl,r1,r2,r3⟩:∃ v H',ad P 1000 (n+4) 39 [.ref (L+1)] H=DJ (v,H')/\∃ S L',v= .ref (L'+1)/\dN N S/\aI H' L' (be N (aG N.cells S) (fun _=>none))/\ai H H':=by
  let Q0:AV->Hp->Prop:=fun v H'=>∃ S L',v= .ref (L'+1)/\dN N S/\aI H' L' (be N (aG N.cells S) (fun _=>none))/\ai H H'
  refine bQ (Q:=Q0) (fn:=im) rfl rfl ?_;unfold im;refine Ab (lu (n:=n+1) q hs hu) fun S u M h0 d1 d2 d3 d4=>?_;have hreb:=fun rc r M cells rep h (q:aI h L N)=>f6 (n:=n) (rc:=rc) (r:=r) (M:=M) (cells:=cells) (rep:=rep) q hs;simp only[FO,Nat.reduceAdd]at d1 hreb;generalize ad P 1000 (n+3)=cl at *;simp only[mN,mC,dR,dS,DY,Ee,Nat.reduceSub,t5];have hn20:=hs.cc;refine ac (v:= .ref u) (h1:=h0) (m1:=[DJ (.ref (L+1)),DJ (.ref u),none,none]) (aJ (vs:=[.ref (L+1)]) (h1:=H) rfl d1) rfl ?_;refine ac (v:= .ref h0.length) (h1:=h0++[.list []]) (m1:=[DJ (.ref (L+1)),DJ (.ref u),DJ (.ref h0.length),none]) rfl rfl ?_;have k0:ai h0 (h0++[AO.list []]):=ai.push _ _;have u0:(h0++[AO.list []])[h0.length]? =DJ (.list []):=au;generalize h0++[AO.list []]=h1 at *;have q1:=q.keep (d4.trans k0);have at1:=q1.attr;have hb:=dc q1.cel;let St4:Nat->aZ->Hp->Prop:=fun j m h=>(∃ x,m=[DJ (.ref (L+1)),DJ (.ref u),DJ (.ref h0.length),x])/\ai h0 h/\h[h0.length]? =DJ (.list ((((Ec j).filter fun i=>decide (i∈S)).map (cA N.cells)).map aj.v))
  refine da (n:=N.cells.length) (h1:=h1) St4
   (by simp only[aB,cV,cO,aw,aA,oB,at1,hb,DR]) (DO hn20 (by decide)) ⟨⟨none,rfl⟩,k0,u0⟩ ?_ ?_
  ·intro j m h hj z5;refine bY z5 fun z160 a1 a2=>?_;clear z5;refine aq z160 fun x z221=>?_;clear z160;subst z221;have q2:=q.keep (d4.trans a1);have at2:=q2.attr;have hcs:=gT q2 hj;have d5:=d3.keep a1;have hr:∀ b,decide (j∈S)=b->(((Ec (j+1)).filter fun i=>decide (i∈S)).map (cA N.cells)).map aj.v=(((Ec j).filter fun i=>decide (i∈S)).map (cA N.cells)).map aj.v++(if b then [(cA N.cells j).v] else []):=by
    intro b hb;refine yF Gr ?_;refine yF (FN _ _) ?_;refine yF Ez ?_;refine yF Ez ?_;congr 1;simp only[Gp,hb,H7];cases b<;>rfl
   refine⟨[DJ (.ref (L+1)),DJ (.ref u),DJ (.ref h0.length),DJ (.int j)],rfl,?_⟩;refine cg (c:=decide (j∈S)) (h1:=h) (by simp only[aB,aU,aK,cW,cq,kF,oB,d5.has,oe]) ?_ ?_
   ·intro e;refine cZ (cK (a:=h0.length) (h1:=h) (h2:=h) (v:=(cA N.cells j).v) rfl a2 (by simp only[aB,aU,cV,bD,oB,at2,hcs]) a2 (by
     refine yF (DR _) ?_;refine yF (DR _) ?_;have:=EI (fun i=>decide (i∈S)) (Ec j);rw[E8]at this;exact bS (nat_lit 13032087437949215015847362) tt this hj hn20)) (bz ⟨by simp,⟨_,rfl⟩,a1.set (DV _),?_⟩)
    refine yF (bH _ _ _ (gS.mp a2).1) ?_;refine yF (hr true e) ?_;rfl
   ·intro e;refine bz ⟨by simp,⟨_,rfl⟩,a1,?_⟩;refine yF (hr false e) ?_;refine yF a2 ?_;simp
  ·intro m h z3;refine bY z3 fun z100 a1 a2=>?_;clear z3;refine aq z100 fun x z161=>?_;clear z100;subst z161;have k2:=ai.push h [.dict []];have hkl:(aG N.cells S).length<=20:=by
    unfold aG;refine yF (DR _) ?_;have:=EI (fun i=>decide (i∈S)) (Ec N.cells.length);rw[E8]at this;exact DO this hn20
   refine aW (hreb h0.length h.length 0 (aG N.cells S) (fun _=>none) (h++[.dict []]) ((q.keep (d4.trans a1)).keep k2) (k2 _ _ a2) (DO hkl (by decide)) (fun c hc=>by
    unfold aG at hc;refine af (Es.mp hc) fun i hi z3=>?_;subst z3;rw[E5,E7]at hi;have:=hs.ni _ (bL hi.1);exact DO this (by decide)) aY.new (fun x y e=>by exact nO e)) fun L' h' e1 e2 e3=>?_
   exact bK (v:= .ref (L'+1)) (h1:=h') (aJ (vs:=[.ref (L+1),.ref h0.length,.ref h.length]) (h1:=h++[.dict []]) rfl e1) (Ed ⟨_,rfl,S,L',rfl,d2,e2,((d4.trans a1).trans k2).trans e3⟩)
 exact⟨S,L',H',e,r1,r2,r3⟩
noncomputable def sH:Nat:=2147483648
noncomputable def cL(h:Hp)(r:Nat):Prop:=∃ (c:Nat) (xs:List Int) (i:Nat) (d s:Nat) (z:AV),h[r]? =DJ (.list [.ref c,.int i,.int d,.int s,z])/\h[c]? =DJ (.list (aa xs))/\i<=xs.length/\s<sH/\c<r
theorem y6{i:Int}(e:aC cl a m c h=DJ (.int i,h1)):aC cl (.neg a) m c h=DJ (.int (-i),h1):=by
 exact bs e rfl
theorem y7{a b:Int}:pH h .min2 [.int a,.int b]=DJ (.int (if b<a then b else a),h):=rfl
theorem CI{r:Nat}{s z M t s2:Int}(hs:fS h (.ref r) (.int 3)=DJ (.int s))(m1:bA .mul s z=DJ t)(m2:bA .mod t M=DJ s2):aC cl (.bin .mod (.bin .mul (.sub (.loc 0) (.const (.int 3))) (.const (.int z))) (.const (.int M))) [DJ (.ref r),y,x,none] [] h=DJ (.int s2,h):=by
 simp only[bd,aB,jQ,bD,ec,oB,oM,hs,m1,m2]
theorem CJ{s:Nat}(hl:s<sH):∃ t:Nat,bA .mul (s:Int) 48271=DJ (t:Int):=by
 have hl:s<2147483648:=hl;refine⟨s * 48271,?_⟩;unfold bA fw;simp only;refine DK (if_pos (by lia)) ?_;simp
theorem CK(z:Nat):bA .mod (z:Int) 2147483647=DJ ((z % 2147483647:Nat):Int):=by
 unfold bA;simp only;refine DK (if_pos (by decide)) ?_;simp
theorem CL(t:Nat):t % 2147483647<sH:=by exact JD (Jl _ (by decide)) (by decide)
theorem BC{r s:Nat}(hs:fS h (.ref r) (.int 3)=DJ (.int s))(hl:s<sH):∃ s2:Nat,s2<sH/\aC cl (.bin .mod (.bin .mul (.sub (.loc 0) (.const (.int 3))) (.const (.int 48271))) (.const (.int 2147483647))) [DJ (.ref r),y,x,none] [] h=DJ (.int s2,h):=by
 refine aq (CJ hl) fun t m1=>?_;exact⟨_,CL t,CI hs m1 (CK t)⟩
theorem lv{a i:Nat}(e:h[a]? =DJ (.list vs))(hi:i<vs.length):dq h (.ref a) (.int i) v=DJ (h.set a (.list (vs.set i v))):=by
 simp only[sh,e];refine DK (if_pos ⟨FL _,by simpa using hi⟩) ?_;refine yF (F9 _) ?_;rfl
theorem xz{W n r lim:Nat}(hh:cL h r)(h1:1<=lim)(h2:lim<=1000):∃ (v:Nat) (o:AO),ad P W (n+1) 40 [.ref r,.int lim] h=DJ (.int v,h.set r o)/\v<lim/\cL (h.set r o) r:=by
 obtain⟨v,H',e,w,o,rfl,rfl,r1,r2⟩:∃ v H',ad P W (n+1) 40 [.ref r,.int lim] h=DJ (v,H')/\∃ (w:Nat) (o:AO),v= .int w/\H'=h.set r o/\w<lim/\cL (h.set r o) r:=by
  let Q0:AV->Hp->Prop:=fun v H'=>∃ (w:Nat) (o:AO),v= .int w/\H'=h.set r o/\w<lim/\cL (h.set r o) r
  refine bQ (Q:=Q0) (fn:=kA) rfl rfl ?_;unfold kA;generalize ad P W n=cl at *;simp only[mN,mC,dR,dS,DY,Ee,Nat.reduceSub];refine eT hh fun c xs i d z16=>?_;clear hh;refine qA z16 fun s z e1 e2 e3 e4 e5=>?_;clear z16;have hrl:=(gS.mp e1).1;have sub0:∀ (g:Hp) (a b e:AV),g[r]? =DJ (.list [.ref c,a,b,e,z])->(fS g (.ref r) (.int 0)=DJ (.ref c)/\fS g (.ref r) (.int 1)=DJ a/\fS g (.ref r) (.int 2)=DJ b/\fS g (.ref r) (.int 3)=DJ e):=by
   intro g a b e hg;refine⟨?_,?_,?_,?_⟩<;>(simp only[kG,hg];rfl)
  have other:∀ o,(h.set r o)[c]? =DJ (.list (aa xs)):=fun o=>by refine DK (gN (Ep e5)) ?_;exact e2
  have fin:∀ (g:Hp) (i' d' s':Nat) (x:Option AV) (o:AO),g=h.set r o->g[r]? =DJ (.list [.ref c,.int i',.int d',.int s',z])->i'<=xs.length->s'<sH->Ok (cF cl W [.assign (.one 3) (.bin .mod (.sub (.loc 0) (.const (.int 2))) (.loc 1)),.setSub (.loc 0) (.const (.int 2)) (.bin .fdiv (.sub (.loc 0) (.const (.int 2))) (.loc 1)),.ret (.loc 3)] [DJ (.ref r),DJ (.int lim),x,none] g) (fun f _ h'=>(∃ v,f= .ret v/\∃ (w:Nat) (o:AO),v= .int w/\h'=h.set r o/\w<lim/\cL (h.set r o) r)\/(f= .next/\∃ (w:Nat) (o:AO),AV.none= .int w/\h'=h.set r o/\w<lim/\cL (h.set r o) r)):=by
   intro g i' d' s' x o hgo hg hi hs;have s0:=sub0 g _ _ _ hg;have m1:=zR (a:=d') (b:=lim) (dm (nat_lit 11826168366) tt h1);have m2:=tU (a:=d') (b:=lim) (dm (nat_lit 11826168366) tt h1) (Ek h2 (by decide));refine ac (v:= .int (d' % lim:Nat)) (h1:=g) (m1:=[DJ (.ref r),DJ (.int lim),x,DJ (.int (d' % lim:Nat))]) (by simp only[bd,aB,aU,jQ,bD,ec,oB,oM,s0,m1]) rfl ?_;refine bk (v:= .int (d' / lim:Nat)) (x:= .ref r) (y:= .int 2) (h1:=g) (h2:=g) (h3:=g) (h4:=g.set r (.list [.ref c,.int i',.int (d' / lim:Nat),.int s',z])) (by simp only[bd,aB,aU,jQ,bD,ec,oB,oM,s0,m2]) rfl rfl (lv (i:=2) hg (by simp)) ?_;refine bK (v:= .int (d' % lim:Nat)) (h1:=g.set r (.list [.ref c,.int i',.int (d' / lim:Nat),.int s',z])) rfl (Ed ⟨_,rfl,d' % lim,.list [.ref c,.int i',.int (d' / lim:Nat),.int s',z],rfl,?_,Jl _ (dm (nat_lit 11826168366) tt h1),?_⟩)
   ·refine yF hgo ?_;refine DK (Ia _) ?_;rfl
   ·exact⟨c,xs,i',d' / lim,s',z,bH _ _ _ hrl,other _,hi,hs,e5⟩
  have s0:=sub0 h _ _ _ e1;have hself:h=h.set r (.list [.ref c,.int i,.int d,.int s,z]):=by
   apply FU;intro k;by_cases hk:r=k
   ·subst hk;refine yF (bH _ _ _ hrl) ?_;exact e1
   ·refine yF (gN hk) ?_;rfl
  refine cg (c:=decide ((d:Int)=0)) (h1:=h) (by simp only[bd,aB,aK,bD,cW,cq,bt,aD,oB,s0]) ?_ ?_
  ·intro q0;refine cg (c:=decide ((i:Int)=xs.length)) (h1:=h) (by simp only[bd,aB,aK,bD,cO,aw,aA,cW,cq,bt,aD,oB,s0,dc e2,aQ]) ?_ ?_
   ·intro q1;refine af (BC (cl:=cl) (x:=none) (y:=DJ (.int lim)) s0.2.2.2 e4) fun s2 hsl hev=>?_;have m3:bA .fdiv (s2:Int) 7=DJ ((s2 / 7:Nat):Int):=tU (a:=s2) (b:=7) (by decide) (by decide);have m4:=zR (a:=s2 / 7) (b:=lim) (dm (nat_lit 11826168366) tt h1);have hg:(h.set r (.list [.ref c,.int i,.int d,.int s2,z]))[r]? =DJ (.list [.ref c,.int i,.int d,.int s2,z]):=bH _ _ _ hrl;have s1:=sub0 _ _ _ _ hg;refine bk (v:= .int s2) (x:= .ref r) (y:= .int 3) (h1:=h) (h2:=h) (h3:=h) (h4:=h.set r (.list [.ref c,.int i,.int d,.int s2,z])) hev rfl rfl (lv (i:=3) e1 (by simp)) ?_;refine bK (v:= .int (s2 / 7 % lim:Nat)) (h1:=h.set r (.list [.ref c,.int i,.int d,.int (s2:Nat),z])) (by
     simp only[bd,aB,aU,jQ,bD,ec,oB,oM,s1,m3,m4]) ⟨fun e=>by simp at e,fun _=>⟨fun e=>by simp at e,fun _=>Ed ⟨_,rfl,_,_,rfl,rfl,Jl _ (dm (nat_lit 11826168366) tt h1),⟨c,xs,i,d,s2,z,hg,other _,e3,hsl,e5⟩⟩⟩⟩
   ·intro q1;have q1:=of_decide_eq_false q1;have hil:i<xs.length:=GZ e3 fun a=>q1 (congrArg Nat.cast a);refine cS ?_;have hx:(aa xs)[i]? =DJ (.int xs[i]):=by unfold aa;refine DK DX ?_;refine yF (gE hil) ?_;rfl
    generalize xs[i]=x at hx;refine ac (v:= .int x) (h1:=h) (m1:=[DJ (.ref r),DJ (.int lim),DJ (.int x),none]) (by simp only[bd,aB,bD,oB,s0,er e2,hx]) rfl ?_;have hg:(h.set r (.list [.ref c,.int (i+1:Nat),.int d,.int s,z]))[r]? =DJ (.list [.ref c,.int (i+1:Nat),.int d,.int s,z]):=bH _ _ _ hrl;refine bk (v:= .int (i+1:Nat)) (x:= .ref r) (y:= .int 1) (h1:=h) (h2:=h) (h3:=h) (h4:=h.set r (.list [.ref c,.int (i+1:Nat),.int d,.int s,z])) (by simp only[bd,aB,jQ,bD,ec,tO,oB,oM,s0];rfl) rfl rfl (lv (i:=1) e1 (by simp)) ?_;have habs:∀ g,aC cl (.ite (.cmp .ge (.loc 2) (.const (.int 0))) (.loc 2) (.neg (.loc 2))) [DJ (.ref r),DJ (.int lim),DJ (.int x),none] [] g=DJ (.int (x.natAbs:Nat),g):=by
     intro g;by_cases hx0:0<=x
     ·have:decide (x≥0)=true:=by simpa using hx0
      simp only[bd,aB,aU,aK,r9,cq,yO,oB,if_true,this,if_true];congr 3;exact Int.eq_natAbs_of_nonneg (by assumption)
     ·have:decide (x≥0)=false:=by simpa using hx0
      simp only[bd,aB,aU,aK,r9,cq,yO,oB,if_false,fE,this,fE,if_false];refine DK (y6 (i:=x) (h1:=g) rfl) ?_;congr 3;lia
    refine bk (v:= .int (x.natAbs:Nat)) (x:= .ref r) (y:= .int 2) (h4:=(h.set r (.list [.ref c,.int (i+1:Nat),.int d,.int s,z])).set r (.list [.ref c,.int (i+1:Nat),.int (x.natAbs:Nat),.int s,z])) (habs _) (by simp only[aB]<;>rfl) (by simp only[bd]<;>rfl) (lv (i:=2) hg (by simp)) (cS ?_);exact fin _ (i+1) x.natAbs s _ (.list [.ref c,.int (i+1:Nat),.int (x.natAbs:Nat),.int s,z]) (by (refine DK (Ia _) ?_;rfl)) (bH _ _ _ (by refine yF Fw ?_;exact hrl)) (bu (nat_lit 11038651067424) tt hil) e4
  ·intro q0;exact cS (fin h i d s none _ hself e1 e3 e4)
 exact⟨w,o,e,r1,r2⟩
theorem wd{P:List Int}{k:Nat}(hk:k<P.length):∃ x∈P,eM (aa P) (-1 - (k:Int))=DJ (.int x):=by
 have hj:P.length - 1 - k<P.length:=Nat.sub_one_sub_lt_of_lt hk;refine⟨P[P.length - 1 - k],Ey hj,?_⟩;unfold eM;refine DK (if_neg (by lia)) ?_;refine yF (if_pos (by refine yF (aQ _) ?_;lia)) ?_;have:(-1 - (k:Int)+((aa P).length:Nat)).toNat=P.length - 1 - k:=by refine yF (aQ _) ?_;omega
 refine yF this ?_;unfold aa;refine DK DX ?_;refine yF (gE hj) ?_;rfl
theorem Av{W n r pl:Nat}{P0:List Int}(hh:cL h r)(hp:h[pl]? =DJ (.list (aa P0)))(hne:pl≠r)(h1:1<=P0.length)(h2:P0.length<=1000):∃ (x:Int) (o:AO),ad P W (n+2) 42 [.ref r,.ref pl] h=DJ (.int x,h.set r o)/\x∈P0/\cL (h.set r o) r:=by
 obtain⟨v,H',e,w,o,rfl,rfl,r1,r2⟩:∃ v H',ad P W (n+2) 42 [.ref r,.ref pl] h=DJ (v,H')/\∃ (w:Int) (o:AO),v= .int w/\H'=h.set r o/\w∈P0/\cL (h.set r o) r:=by
  let Q0:AV->Hp->Prop:=fun v H'=>∃ (w:Int) (o:AO),v= .int w/\H'=h.set r o/\w∈P0/\cL (h.set r o) r
  refine bQ (Q:=Q0) (fn:=kB) rfl rfl ?_;unfold kB;have pk:=fun lim h=>xz (W:=W) (n:=n) (r:=r) (lim:=lim) (h:=h);generalize ad P W (n+1)=cl at *;simp only[mN,mC,dR,dS,DY,Nat.reduceSub];refine aW (pk 3 h hh (by decide) (by decide)) fun v1 o1 a1 a2 a3=>?_;have hp1:(h.set r o1)[pl]? =DJ (.list (aa P0)):=by rewrite[gN (fun e=>hne e.symm)];exact hp
  refine cg (c:=decide ((v1:Int)=0)) (h1:=h.set r o1) (by
   simp only[bd,aB,aK,ej,aw,aA,cW,bt,oB];refine yF (show ((3:Int))=((3:Nat):Int) from rfl) ?_;refine yF a1 ?_;simp only[cq,aD,oB]) ?_ ?_
  ·intro _;refine aW (pk P0.length _ a3 h1 h2) fun v2 o2 b1 b2 b3=>?_;have hp2:((h.set r o1).set r o2)[pl]? =DJ (.list (aa P0)):=by rewrite[gN (fun e=>hne e.symm)];exact hp1
   have hx:(aa P0)[v2]? =DJ (.int P0[v2]):=by unfold aa;refine DK DX ?_;refine yF (gE b2) ?_;rfl
   refine bK (v:= .int P0[v2]) (h1:=(h.set r o1).set r o2) (by simp only[aB,aU,bD,ej,cO,aw,aA,oB,dc hp1,aQ,b1,er hp2,hx]) ⟨fun e=>by simp at e,fun _=>Ed ⟨_,rfl,_,o2,rfl,by (refine DK (Ia _) ?_;rfl),Ey b2,by rw[Ia]at b3;exact b3⟩⟩
  ·intro _;refine cS ?_;have hmin:(if (6:Int)<((P0.length:Nat):Int) then (6:Int) else ((P0.length:Nat):Int))=((min P0.length 6:Nat):Int):=by split<;>lia
   refine aW (pk (min P0.length 6) _ a3 (by lia) (dm (nat_lit 379283663313344) tt (EE _ _))) fun v2 o2 b1 b2 b3=>?_;have hp2:((h.set r o1).set r o2)[pl]? =DJ (.list (aa P0)):=by rewrite[gN (fun e=>hne e.symm)];exact hp1
   refine af (wd (P:=P0) (k:=v2) (bS (nat_lit 12129358850082) tt b2 (EV _ _))) fun x hx1 hx2=>?_;refine bK (v:= .int x) (h1:=(h.set r o1).set r o2) (by
    simp only[bd,aB,aU,jQ,tN,bD,ej,cO,aw,aA,ec,wW,oB,oM,dc hp1,aQ,y7,hmin,b1];simp only[kG,hp2,hx2,oM,oB]) (Ed ⟨_,rfl,_,o2,rfl,by (refine DK (Ia _) ?_;rfl),hx1,by rw[Ia]at b3;exact b3⟩)
 exact⟨w,o,e,r1,r2⟩
theorem pS{w:Nat}(I:Nat->Hp->Prop)(Px:Nat->Int->Prop)(e1:aC cl it m [] h=DJ (.int w,h1))(hw:w<=1000)(i0:I 0 h1)
  (hs:∀ j h,j<w->I j h->∃ x h',aC cl e m [DJ (.int j)] h=DJ (.int x,h')/\Px j x/\I (j+1) h'):
  ∃ xs h',aC cl (.comp 1 (.one 0) true it (.elt e)) m [] h=DJ (.ref h'.length,h'++[.list (aa xs)])/\xs.length=w/\(∀ j x,xs[j]? =DJ x->Px j x)/\I w h':=by
 obtain⟨⟨c',h',acc⟩,e2,s⟩:=gK (hp:=fun (s:aZ × Hp × List AV)=>s.2.1) (gd:=none) (f:=fun (s:aZ × Hp × List AV) v=>do
   let c' <- bp s.1 (.one 0) v
   m8 cl (.elt e) m c' s.2.1 s.2.2) (fun j s=>s.1.length=1/\I j s.2.1/\∃ xs,s.2.2=aa xs/\xs.length=j/\∀ j x,xs[j]? =DJ x->Px j x) (vs:=(Ec w).map fun (i:Nat)=>AV.int i) (x:=([none],h1,[])) (fun p s q=>rfl)
  (fun j v s ep st=>by
   obtain⟨c,h',acc⟩:=s;refine bY st fun s1 s2 z16=>?_;clear st;refine aM z16 fun xs s3 s4 s5=>?_;clear z16;simp only at s1 s2 s3;subst s3;obtain⟨y,rfl⟩:∃ y,c=[y]:=by
    cases c with
    | nil=>simp at s1
    | cons y t=>cases t with
     | nil=>exact ⟨y,rfl⟩
     | cons z t=>simp at s1
   have hj:j<w:=by have:=(gS.mp ep).1;simpa using this
   rw[DX,Ff hj]at ep;simp only[oM,D7]at ep;subst ep;refine aW (hs j h' hj s2) fun x h2 hv hx hI=>?_;have:(aa xs).length<bo:=by refine yF (aQ _) ?_;exact aV (bS (nat_lit 417026798086432474549669314) tt s4 hj hw)
   refine⟨([DJ (.int j)],h2,aa (xs++[x])),?_,rfl,hI,xs++[x],rfl,by simp[s4],fun k z hk=> ?_⟩
   ·have hsn:aa xs++[AV.int x]=aa (xs++[x]):=by unfold aa;simp
    simp only[yS,vK,D6,Et,En,Nat.reduceLT,if_true,ED,oB,EF,hv,this,hsn]
   ·by_cases hkl:k<xs.length
    ·rw[Eh hkl]at hk;exact s5 k z hk
    ·have hl:=(gS.mp hk).1;rw[DU,Ex]at hl;have hkj:k=j:=Eo (bS (nat_lit 361426258327777314) tt hl s4) (bS (nat_lit 11029912299554) tt s4 (E6 hkl));subst hkj;rw[<- s4,D9 (DV _),EH]at hk;refine jA hk ?_;exact hx) ⟨rfl,i0,[],rfl,rfl,fun j x e=>by simp at e⟩
 simp only[DR,E8]at s;refine bY s fun uu s2 z16=>?_;clear s;refine aM z16 fun xs z72 s4 s5=>?_;clear z16;subst z72;exact⟨xs,h',js e1 (dK h1 w (aV hw)) e2,s4,s5,s2⟩
theorem pT{W n L:Nat}(q:aI h L N):∃ h',ad P W (n+1) 2 [.ref (L+1)] h=DJ (.int N.count,h')/\aI h' L { N with count:=N.count+1 }/\Kx L h h'/\h'.length=h.length:=by
 refine am (q.setCount (N.count+1)) fun s1 s2=>?_;refine⟨_,bE (fn:=eY) rfl rfl ⟨[DJ (.ref (L+1)),DJ (.int N.count)],?_⟩,s2,Kx.set (DV _) (D5 _ _),by (refine DK Fw ?_;rfl)⟩;unfold eY;generalize ad P W n=cl at *;simp only[mN,mC,dR,dS,DY,Ee,Nat.reduceSub,Cc];have at1:=q.attr;refine bJ (m1:=[DJ (.ref (L+1)),DJ (.int N.count)]) (h1:=h) (cH (v:= .int N.count) (h1:=h) (by simp only[aB,cV,oB,at1]) rfl) ?_;refine bJ (m1:=[DJ (.ref (L+1)),DJ (.int N.count)]) (h1:=h.set L (.dict (iY L { N with count:=N.count+1 }))) ?_ (bM (cX rfl));simp only[CC,bd,aB,vJ,tO,oB,oM,ED,oB,at1,oM,s1,F7]
noncomputable def ao(c:Int)(w:Nat):List Int:=(Ec w).map fun (i:Nat)=>c+i
theorem og{W n L w:Nat}(q:aI h L N)(hw:w<=1000)(hl:L+4<h.length):∃ h',ad P W (n+2) 3 [.ref (L+1),.int w] h=DJ (.ref h'.length,h'++[.list (aa (ao N.count w))])/\aI h' L { N with count:=N.count+w }/\Kx L h h'/\h'.length=h.length:=by
 have nn:=fun (N:NL) (h:Hp)=>pT (W:=W) (n:=n) (L:=L) (N:=N) (h:=h);have e0:∀ r,cF (ad P W (n+1)) W bR.body ([AV.ref (L+1),.int w].map DJ++D0 0 none) h=r->cF (ad P W (n+1)) W bR.body ([AV.ref (L+1),.int w].map DJ++D0 (bR.nl - bR.np) none) h=r:=fun r e=>e;generalize hcl:ad P W (n+1)=cl at *;refine kr (pS (cl:=cl) (m:=[DJ (.ref (L+1)),DJ (.int w)]) (h:=h) (h1:=h) (it:= .loc 1) (e:= .meth (.free 0) 2 []) (w:=w) (fun j h'=>aI h' L { N with count:=N.count+j }/\Kx L h h'/\h'.length=h.length) (fun j x=>x=N.count+j) rfl hw ⟨by simpa using q,Kx.refl,rfl⟩ (fun j h2 hj z=>bY z fun a1 a2 a3=>by
  refine fu (nn _ h2 a1) fun h3 b1 b2 b3 b4=>?_;refine⟨N.count+j,h3,dA (a:=L+1) (h1:=h2) (vs:=[]) (h2:=h2) rfl a1.okI rfl b1,rfl,?_,a2.trans b3,by lia⟩;have:N.count+(j:Int)+1=N.count+((j+1:Nat):Int):=Li ..;simp only[this]at b2;exact b2)) fun xs h' e hxl hx hn hk hll=>?_
 have hxs:xs=ao N.count w:=by
  apply FU;intro j;unfold ao;refine yF DX ?_;by_cases hj:j<w
  ·have:=hx j xs[j] (gE (by lia));refine DK (gE (by lia)) ?_;refine yF this ?_;refine yF (Ff hj) ?_;rfl
  ·refine DK (EN (by lia)) ?_;refine yF (EN (by simp;exact Fe.mp hj)) ?_;rfl
 subst hxs;refine⟨h',bE (fn:=bR) rfl rfl ⟨[DJ (.ref (L+1)),DJ (.int w)],?_⟩,hn,hk,hll⟩;refine yF hcl ?_;unfold bR;simp only[mN,mC,dR,dS,DY,Nat.reduceSub];exact bM (cX e)
theorem sI{W n L w:Nat}(q:aI h L N)(hw:w<=1000)(hl:L+4<h.length)(hi:N.inputs.length<=1000):∃ a h',ad P W (n+3) 4 [.ref (L+1),.str nm,.int w] h=DJ (.ref a,h')/\aI h' L { N with count:=N.count+w,inputs:=N.inputs++[(nm,ao N.count w)] }/\Kx L h h'/\h'[a]? =DJ (.list (aa (ao N.count w)))/\L+4<a/\h.length<=h'.length:=by
 refine fu (og (W:=W) (n:=n) q hw hl) fun h1 e1 q1 k1 l1=>?_;have q2:=q1.keep (ai.push h1 [.list (aa (ao N.count w))]);have g2:(h1++[AO.list (aa (ao N.count w))])[h1.length]? =DJ (.list (aa (ao N.count w))):=au;have k2:=k1.trans (ai.push h1 [.list (aa (ao N.count w))]).kx;have l2:(h1++[AO.list (aa (ao N.count w))]).length=h1.length+1:=by simp
 generalize hX:h1++[AO.list (aa (ao N.count w))]=h2 at *;have q3:=q2.keep (ai.push h2 [.list (aa (ao N.count w))]);refine af q2.inp fun vi i1 i2=>?_;have i3:=ai.push h2 [.list (aa (ao N.count w))] _ _ i1;have q4:=q3.pushIn (p:=(nm,ao N.count w)) (a:=h2.length) i3 (kt (nat_lit 13994464854638221124068287494241) tt hl l1 l2) au;refine⟨h1.length,_,bE (fn:=dZ) rfl rfl ⟨[DJ (.ref (L+1)),DJ (.str nm),DJ (.int w),DJ (.ref h1.length)],?_⟩,q4,(k2.trans (ai.push _ _).kx).trans (Kx.set (D5 _ _) (dm (nat_lit 11291939064256) tt)),?_,bS (nat_lit 13033361038787496391745) tt hl l1,by simp;exact bS (nat_lit 12121169321286198409281) tt l1 l2⟩
 ·unfold dZ;generalize ad P W (n+2)=cl at *;simp only[mN,mC,dR,dS,DY,Ee,Nat.reduceSub,zS];have at1:=q.attr;have at2:=q2.attr;refine bJ (m1:=[DJ (.ref (L+1)),DJ (.str nm),DJ (.int w),DJ (.ref h1.length)]) (h1:=h2) (cH (v:= .ref h1.length) (h1:=h2) (dA (a:=L+1) (h1:=h) (vs:=[.int w]) (h2:=h) rfl q.okI rfl e1) rfl) ?_;refine bJ (jt (v:= .none) (cK (h1:=h2) (h2:=h2++[.list (aa (ao N.count w))]) (a:=L+2) (v:= .tup [.str nm,.ref h2.length]) (by simp only[aB,cV,oB,at2,oM]) i1 (by simp only[aB,aU,cG,cO,aw,aA,oB,jY g2,oM]) i3 (by rewrite[i2.1];exact hi))) (bM (cX rfl))
 ·refine yF (gN (by with_unfolding_all exact D4 (bS (nat_lit 13033288981193458463809) tt hl l1))) ?_;exact ai.push _ _ _ _ g2
theorem ud{W n L a:Nat}{ins:List Int}(q:aI h L N)(ha:h[a]? =DJ (.list (aa ins)))(hal:L+4<a)(hl:N.cells.length<=1000):∃ h',ad P W (n+2) 6 [.ref (L+1),.str k,.ref a,p] h=DJ (.int N.count,h')/\aI h' L { N with count:=N.count+1,cells:=N.cells++[⟨k,N.count,ins,p⟩] }/\Kx L h h'/\h'.length=h.length:=by
 refine fu (pT (W:=W) (n:=n) q) fun h1 e1 q1 k1 l1=>?_;have e2:=q6 (W:=W) (n:=n) (out:=N.count) (k:=k) (p:=p) q1 (k1 _ _ (Ew hal) ha) hl;refine⟨_,bE (fn:=eE) rfl rfl ⟨[DJ (.ref (L+1)),DJ (.str k),DJ (.ref a),DJ p,DJ (.int N.count)],?_⟩,q1.pushCell ⟨k,N.count,ins,p⟩,k1.trans (Kx.set (D5 _ _) (DV _)),by refine DK Fw ?_;exact l1⟩;unfold eE;generalize ad P W (n+1)=cl at *;simp only[mN,mC,dR,dS,DY,Ee,Nat.reduceSub];refine bJ (m1:=[DJ (.ref (L+1)),DJ (.str k),DJ (.ref a),DJ p,DJ (.int N.count)]) (h1:=h1) (cH (v:= .int N.count) (h1:=h1) (dA (a:=L+1) (h1:=h) (vs:=[]) (h2:=h) rfl q.okI rfl e1) rfl) ?_;refine bJ (jt (v:= .none) (dA (a:=L+1) (h1:=h1) (vs:=[.int N.count,.str k,.ref a,p]) (h2:=h1) rfl q1.okI rfl e2)) (bM (cX rfl))
noncomputable def cr(p:AV):Nm:=match p with
 | .tup [_,.str nm,_]=>nm
 | .tup [.str nm,_]=>nm
 | _=>[]
noncomputable def bf(l:List aj):List Nm:=(l.filter fun c=>bh c.kind).map fun c=>cr c.param
structure cn(N:NL):Prop where
 small:gP N
 nd:(bq N++outs N).Nodup
 comb:∀ c∈N.cells,bh c.kind=false->aT c.kind c.ins.length c.param
 st:∀ c∈N.cells,bh c.kind=true->lp c.kind c.ins.length c.param
 drv:∀ c∈N.cells,∀ x∈c.ins,x∈bq N++outs N
 drvO:∀ x∈ar N.outputs,x∈bq N++outs N
 nn:∀ x∈bq N++outs N,0<=x
 acyc:∃ rank:Int->Nat,∀ c∈N.cells,bh c.kind=false->∀ d∈N.cells,bh d.kind=false->d.out∈c.ins->rank d.out<rank c.out
 nmz:(bf N.cells).Nodup
 bits:(ar N.inputs).length+(bf N.cells).length<=6
noncomputable def qn(t:Nat):Nm:=[113]++fy t
structure jz(N:NL)(P S CO:List Int)(t:Nat):Prop where
 cnt:∀ x∈bq N++S++CO,0<=x/\x<N.count
 nd:(bq N++S++CO).Nodup
 two:2∈bq N
 inl:N.inputs.length=2
 ins:∀ p∈N.inputs,p.2.length<=2
 sl:S.length<=2
 tl:t<=S.length
 cl:CO.length<=10
 ps:∀ x∈P,x∈bq N++S++CO
 p1:4<=P.length
 p2:P.length<=8+CO.length
 ou:outs N=CO++S.take t
 ce:∀ c∈N.cells,(bh c.kind=false/\aT c.kind c.ins.length c.param/\∀ x∈c.ins,x<c.out)\/(bh c.kind=true/\lp c.kind c.ins.length c.param)
 ci:∀ c∈N.cells,∀ x∈c.ins,x∈bq N++S++CO
 nm:bf N.cells=(Ec t).map qn
 oo:∀ x∈ar N.outputs,x∈bq N++S++CO
 ol:N.outputs.length<=2
 op:∀ p∈N.outputs,p.2.length<=3
theorem mO(a b:List aj):bf (a++b)=bf a++bf b:=by unfold bf;refine yF (FN _ _) ?_;refine DK Ez ?_;rfl
theorem pU(h:aT k l p):bh k=false:=by
 cases h with
 | gate k hk=>
  unfold nW at hk;simp only[ER,EW,or_false]at hk;rcases hk with rfl | rfl | rfl | rfl | rfl | rfl<;>decide
 | _=>decide
theorem y8(h:lp k l p):bh k=true:=by cases h<;>decide
theorem sJ(h:lp k l p):l=4:=by cases h<;>rfl
theorem jz.comb{P S CO:List Int}(b:jz N P S CO 0){ins:List Int}(ok:aT k ins.length p)(hi:∀ x∈ins,x∈P)(hc:CO.length<10):
  jz { N with count:=N.count+1,cells:=N.cells++[⟨k,N.count,ins,p⟩] } (P++[N.count]) S (CO++[N.count]) 0:=by
 have hs:bq { N with count:=N.count+1,cells:=N.cells++[⟨k,N.count,ins,p⟩] }=bq N:=rfl;have hst:=pU ok;have fr:N.count∉bq N++S++CO:=fun h=>by have:=b.cnt _ h;lia
 refine⟨?_,?_,b.two,b.inl,b.ins,b.sl,b.tl,by simp;exact FT hc,?_,by simp;have:=b.p1;exact dm (nat_lit 344249926286) tt this,by simp;have:=b.p2;exact bu (nat_lit 396850488888564166269395392) tt this,?_,?_,?_,?_,?_,b.ol,b.op⟩
 ·intro x hx;rw[hs,<- D1,DZ,DT]at hx;rcases hx with hx | rfl
  ·have:=b.cnt x hx;simp only;lia
  ·have:=b.cnt 2 (by simp[b.two]);simp only;lia
 ·refine yF hs ?_;refine yB (D1 _ _ _) ?_;rewrite[Fa];refine⟨b.nd,by simp,fun a ha c hc e=> ?_⟩;rw[DT]at hc;subst hc e;exact fr ha
 ·intro x hx;refine yF hs ?_;refine yB (D1 _ _ _) ?_;rw[DZ]at hx ⊢;rcases hx with hx | hx
  ·exact Ed (b.ps x hx)
  ·exact Ew hx
 ·have:=b.ou;unfold outs at this ⊢;simp only[Ez,this,IR,EC,mC,mN]
 ·intro c hc;rw[DZ,DT]at hc;rcases hc with hc | rfl
  ·exact b.ce c hc
  ·refine Ed ⟨hst,ok,fun x hx=> ?_⟩;exact (b.cnt x (b.ps x (hi x hx))).2
 ·intro c hc x hx;refine yF hs ?_;refine yB (D1 _ _ _) ?_;rewrite[DZ];rw[DZ,DT]at hc;rcases hc with hc | rfl
  ·exact Ed (b.ci c hc x hx)
  ·exact Ed (b.ps x (hi x hx))
 ·have:=b.nm;simp only[mO,this,range_zero,mN,dR];unfold bf;simp[hst]
 ·intro x hx;refine yF hs ?_;refine yB (D1 _ _ _) ?_;rewrite[DZ];exact Ed (b.oo x hx)
theorem jz.state{P S CO:List Int}{t:Nat}(b:jz N P S CO t){ins:List Int}{o:Int}(ok:lp k ins.length p)(hp:cr p=qn t)(hi:∀ x∈ins,x∈bq N++S++CO)(ho:S[t]? =DJ o):
  jz { N with cells:=N.cells++[⟨k,o,ins,p⟩] } P S CO (t+1):=by
 have hs:bq { N with cells:=N.cells++[⟨k,o,ins,p⟩] }=bq N:=rfl;have hst:=y8 ok;have hl:=(gS.mp ho).1;refine⟨b.cnt,b.nd,b.two,b.inl,b.ins,b.sl,bu (nat_lit 11038651067424) tt hl,b.cl,b.ps,b.p1,b.p2,?_,?_,?_,?_,b.oo,b.ol,b.op⟩
 ·have:=b.ou;unfold outs at this ⊢;refine yF (bn ho) ?_;simp only[Ez,this,mC,mN,D1]
 ·intro c hc;rw[DZ,DT]at hc;rcases hc with hc | rfl
  ·exact b.ce c hc
  ·exact Ew ⟨hst,ok⟩
 ·intro c hc x hx;rw[DZ,DT]at hc;rcases hc with hc | rfl
  ·exact b.ci c hc x hx
  ·exact hi x hx
 ·have:=b.nm;simp only[mO,this];refine yF Gr ?_;refine yF Ez ?_;unfold bf;simp[hst,hp]
theorem jz.out{P S CO:List Int}{t:Nat}(b:jz N P S CO t)(hi:∀ x∈p.2,x∈P)(hl:p.2.length<=3)(ho:N.outputs.length<2):jz { N with outputs:=N.outputs++[p] } P S CO t:=by
 refine⟨b.cnt,b.nd,b.two,b.inl,b.ins,b.sl,b.tl,b.cl,b.ps,b.p1,b.p2,b.ou,b.ce,b.ci,b.nm,?_,by simp;exact FT ho,?_⟩
 ·intro x hx;unfold ar at hx;simp only[FR,Fo,G2,EC,DZ]at hx;rcases hx with hx | hx
  ·exact b.oo x hx
  ·exact b.ps x (hi x hx)
 ·intro q hq;rw[DZ,DT]at hq;rcases hq with hq | rfl
  ·exact b.op q hq
  ·exact hl
theorem jz.good{P S CO:List Int}(b:jz N P S CO S.length):cn N:=by
 have ho:outs N=CO++S:=by (refine DK b.ou ?_;refine yF Ef ?_;rfl)
 have hmem:∀ x,x∈bq N++S++CO↔x∈bq N++outs N:=by
  intro x;refine yF ho ?_;simp only[DZ];constructor
  ·rintro ((h | h) | h)
   ·exact Ed h
   ·exact Ew (Ew h)
   ·exact Ew (Ed h)
  ·rintro (h | h | h)
   ·exact Ed (Ed h)
   ·exact Ew h
   ·exact Ed (Ew h)
 have hlen:N.cells.length=CO.length+S.length:=by
  have:(outs N).length=N.cells.length:=DR _;rw[ho,DU]at this;exact this.symm
 have hsl:=b.sl;have hcl:=b.cl;have hnl:(ar N.inputs).length<=4:=by
  have h1:=b.inl;have h2:=b.ins;match hN:N.inputs with
  | [a,c]=>
   rw[hN]at h2;have:=h2 a (by simp);have:=h2 c (by simp);unfold ar;simp;exact bu (nat_lit 392506757471616190912) tt this ‹_›
  | []=>rw[hN]at h1;simp at h1
  | [_]=>rw[hN]at h1;simp at h1
  | _::_::_::_=>rw[hN]at h1;simp at h1
 refine⟨⟨by have:=b.inl;exact dm (nat_lit 11701034830272) tt this,by have:=b.ol;exact DO this (by decide),bS (nat_lit 411693562918910013924010433) tt hlen hsl hcl,fun p hp=>by have:=b.ins p hp;exact DO this (by decide),fun p hp=>by have:=b.op p hp;exact DO this (by decide),fun c hc=> ?_⟩,?_,fun c hc hk=> ?_,fun c hc hk=> ?_,fun c hc x hx=>(hmem x).mp (b.ci c hc x hx),fun x hx=>(hmem x).mp (b.oo x hx),fun x hx=>(b.cnt x ((hmem x).mpr hx)).1,?_,?_,?_⟩
 ·rcases b.ce c hc with⟨_,h,_⟩ | ⟨_,h⟩
  ·have:=du h;exact dm (nat_lit 11701034765760) tt this.2
  ·have:=sJ h;exact dm (nat_lit 11701034832320) tt this
 ·have:List.Perm (bq N++S++CO) (bq N++outs N):=by
   refine yF ho ?_;refine yF (D1 _ _ _) ?_;exact F5 _ List.perm_append_comm
  exact this.nodup_iff.mp b.nd
 ·rcases b.ce c hc with⟨_,h,_⟩ | ⟨h,_⟩
  ·exact h
  ·rw[hk]at h;exact fT h
 ·rcases b.ce c hc with⟨h,_,_⟩ | ⟨_,h⟩
  ·rw[hk]at h;exact tF h
  ·exact h
 ·refine⟨Int.toNat,fun c hc hk d hd hk2 hin=> ?_⟩;rcases b.ce c hc with⟨_,_,h⟩ | ⟨h,_⟩
  ·have h1:=h _ hin;have h2:=b.ci c hc _ hin;have:=(b.cnt _ h2).1;lia
  ·rw[hk]at h;exact fT h
 ·refine yF b.nm ?_;match hS:S.length,hsl with
  | 0,_=>simp
  | 1,_=>decide
  | 2,_=>decide
 ·refine yF b.nm ?_;refine yF (DR _) ?_;refine yF E8 ?_;exact bu (nat_lit 394812600480829886912) tt hsl hnl
set_option tactic.hygienic true in
theorem cn.rk(g:cn N):∃ rk:Nat->Nat,∀ i∈bj N.cells,∀ b∈pre N.cells i,rk b<rk i:=by
 refine aq g.acyc fun rank hr=>?_;refine⟨fun i=>rank (cA N.cells i).out,fun i hi b hb=> ?_⟩;have hbc:=sE hb;unfold bj at hi hbc;rw[E5,E7]at hi hbc;unfold pre at hb;rw[Hv]at hb;refine af hb fun x hx e=>?_;clear hb;have hout:(cA N.cells b).out=x:=by
  unfold iG at e;split at e
  ·rename_i b' hb';split at e
   ·exact nO e
   ·revert hb';refine jR e ?_;intro hb';unfold eP at hb';refine af (Go.mp hb') fun hl h1 uu=>?_;refine yF (n3 (gE hl)) ?_;simpa using h1
  ·exact nO e
 exact hr _ (bL hi.1) (by simpa using hi.2) _ (bL hbc.1) (by simpa using hbc.2) (by refine yF hout ?_;exact hx)
theorem cL.of(q:cL h r)(k:∀ k o,k<=r->h[k]? =DJ o->h'[k]? =DJ o):cL h' r:=by
 refine eT q fun c xs i d z16=>?_;clear q;refine aW z16 fun s z a b e=>?_;clear z16;exact⟨c,xs,i,d,s,z,k _ _ (DV _) a,k _ _ (bu (nat_lit 336604192) tt e.2.2) b,e⟩
structure iB(H:Hp)(r L:Nat)(h:Hp)(N:NL):Prop where
 net:aI h L N
 hand:cL h r
 fr:∀ k o,k≠r->H[k]? =DJ o->h[k]? =DJ o
 rl:r<L
 hl:H.length<=L
noncomputable def Fx(L:Nat)(h h':Hp):Prop:=∀ k o,L+4<k->h[k]? =DJ o->h'[k]? =DJ o
theorem Fx.trans(x:Fx L a b)(y:Fx L b c):Fx L a c:=fun k o q e=>y k o q (x k o q e)
theorem Fx.refl:Fx L a a:=fun _ _ _ e=>e
theorem Fx.push{a T:Hp}:Fx L a (a++T):=fun k o _ e=>ai.push _ _ k o e
theorem iB.len(s:iB H r L h N):L+4<h.length:=(gS.mp s.net.cel).1
theorem iB.push{H h T:Hp}(s:iB H r L h N):iB H r L (h++T) N:=
 ⟨s.net.keep (ai.push _ _),s.hand.of fun k o _ e=>ai.push _ _ k o e,fun k o q e=>ai.push _ _ k o (s.fr k o q e),s.rl,s.hl⟩
theorem iB.hs(s:iB H r L h N)(hh:cL (h.set r o) r):iB H r L (h.set r o) N/\Fx L h (h.set r o):=
 ⟨⟨s.net.set s.rl,hh,fun k o q e=>by rewrite[gN (fun e=>q e.symm)];exact s.fr k o q e,s.rl,s.hl⟩,fun k o q e=>by (refine yF (gN (by have:=s.rl;with_unfolding_all exact D4 (bS (nat_lit 397454830833258946) tt this q))) ?_);exact e⟩
theorem iB.kx(s:iB H r L h N)(k:Kx L h h')(n:aI h' L N'):iB H r L h' N'/\Fx L h h':=
 ⟨⟨n,s.hand.of fun i o hi e=>k i o (by have:=s.rl;exact .inl (bS (nat_lit 12129325296674) tt hi this)) e,fun i o q e=>k i o (by have:=(gS.mp e).1;have:=s.hl;exact .inl (bS (nat_lit 12129358850082) tt ‹_› this)) (s.fr i o q e),s.rl,s.hl⟩,fun i o q e=>k i o (.inr (bu (nat_lit 397746613731480000) tt q)) e⟩
structure y9(cl:aR):Prop where
 pick:∀ {r lim:Nat} {h:Hp},cL h r->1<=lim->lim<=1000->∃ (v:Nat) (o:AO),cl 40 [.ref r,.int lim] h=DJ (.int v,h.set r o)/\v<lim/\cL (h.set r o) r
 near:∀ {r pl:Nat} {h:Hp} {P0:List Int},cL h r->h[pl]? =DJ (.list (aa P0))->pl≠r->1<=P0.length->P0.length<=1000->∃ (x:Int) (o:AO),cl 42 [.ref r,.ref pl] h=DJ (.int x,h.set r o)/\x∈P0/\cL (h.set r o) r
 init:∀ {nm:Nm} {H:Hp},cl 0 [.ref (H.length+1),.str nm] (H++[.dict [],.inst H.length])=DJ (.none,H++[.dict (iY H.length ⟨nm,2,[],[],[]⟩),.inst H.length,.list [],.list [],.list []])
 nets:∀ {L w:Nat} {N:NL} {h:Hp},aI h L N->w<=1000->L+4<h.length->∃ h',cl 3 [.ref (L+1),.int w] h=DJ (.ref h'.length,h'++[.list (aa (ao N.count w))])/\aI h' L { N with count:=N.count+w }/\Kx L h h'/\h'.length=h.length
 inp:∀ {L w:Nat} {N:NL} {nm:Nm} {h:Hp},aI h L N->w<=1000->L+4<h.length->N.inputs.length<=1000->∃ a h',cl 4 [.ref (L+1),.str nm,.int w] h=DJ (.ref a,h')/\aI h' L { N with count:=N.count+w,inputs:=N.inputs++[(nm,ao N.count w)] }/\Kx L h h'/\h'[a]? =DJ (.list (aa (ao N.count w)))/\L+4<a/\h.length<=h'.length
 cell:∀ {L a:Nat} {N:NL} {k:Nm} {ins:List Int} {p:AV} {h:Hp},aI h L N->h[a]? =DJ (.list (aa ins))->L+4<a->N.cells.length<=1000->∃ h',cl 6 [.ref (L+1),.str k,.ref a,p] h=DJ (.int N.count,h')/\aI h' L { N with count:=N.count+1,cells:=N.cells++[⟨k,N.count,ins,p⟩] }/\Kx L h h'/\h'.length=h.length
 drive:∀ {L a:Nat} {N:NL} {h:Hp} {out:Int} {k:Nm} {ins:List Int} {p:AV},aI h L N->h[a]? =DJ (.list (aa ins))->N.cells.length<=1000->cl 7 [.ref (L+1),.int out,.str k,.ref a,p] h=DJ (.none,h.set (L+4) (.list (N.cells.map aj.v++[aj.v ⟨k,out,ins,p⟩])))
 outp:∀ {L a:Nat} {N:NL} {h:Hp} {nm:Nm} {nets:List Int},aI h L N->h[a]? =DJ (.list (aa nets))->L+4<h.length->N.outputs.length<=1000->∃ h',cl 5 [.ref (L+1),.str nm,.ref a] h=DJ (.none,h')/\aI h' L { N with outputs:=N.outputs++[(nm,nets)] }/\Kx L h h'/\h.length<=h'.length
theorem Dy:y9 (ad P W (n+3)):=
 ⟨fun a b c=>xz (n:=n+2) a b c,fun a b c d e=>Av (n:=n+1) a b c d e,xu (n:=n+2),fun a b c=>og (n:=n+1) a b c,fun a b c d=>sI (n:=n) a b c d,fun a b c d=>ud (n:=n+1) a b c d,fun a b c=>q6 (n:=n+2) a b c,fun a b c d=>lq (n:=n+2) a b c d⟩
theorem iB.pick{r L lim:Nat}{z:Int}(s:iB H r L h N)(K:y9 cl)(hz:z=(lim:Int))(h1:1<=lim)(h2:lim<=1000)(e:iP cl es m c h=DJ ([.ref r,.int z],h)):
  ∃ (v:Nat) (h':Hp),aC cl (.call 40 es) m c h=DJ (.int v,h')/\v<lim/\iB H r L h' N/\Fx L h h'/\h'.length=h.length/\(∀ k,k≠r->h'[k]? =h[k]?):=by
 subst hz;refine aW (K.pick (lim:=lim) s.hand h1 h2) fun v o a b c=>?_;refine am (s.hs c) fun d f=>?_;exact⟨v,_,aJ e a,b,d,f,by (refine DK Fw ?_;rfl),fun k hk=>by (rewrite[gN (fun e=>hk e.symm)];rfl)⟩
theorem iB.near{r L pl:Nat}{Q:List Int}(s:iB H r L h N)(K:y9 cl)(hp:h[pl]? =DJ (.list (aa Q)))(hl:L+4<pl)(h1:1<=Q.length)(h2:Q.length<=1000)(e:iP cl es m c h=DJ ([.ref r,.ref pl],h)):
  ∃ (x:Int) (h':Hp),aC cl (.call 42 es) m c h=DJ (.int x,h')/\x∈Q/\iB H r L h' N/\Fx L h h'/\h'.length=h.length:=by
 refine aW (K.near s.hand hp (by have:=s.rl;exact Ep (bS (nat_lit 397454830833258946) tt this hl)) h1 h2) fun v o a b c=>?_;refine am (s.hs c) fun d f=>?_;exact⟨v,_,aJ e a,b,d,f,by (refine DK Fw ?_;rfl)⟩
theorem iB.choice{r L pl:Nat}{Q:List Int}{z:Int}(s:iB H r L h N)(K:y9 cl)(hp:h[pl]? =DJ (.list (aa Q)))(hl:L+4<pl)(h1:1<=Q.length)(h2:Q.length<=1000)(e:∀ h,iP cl es m c h=DJ ([.ref r,.int 3],h))(e2:∀ h,iP cl es2 m c h=DJ ([.ref r,.ref pl],h)):
  ∃ (x:Int) (h':Hp),aC cl (.ite (.cmp .eq (.call 40 es) (.const (.int 2))) (.call 42 es2) (.const (.int z))) m c h=DJ (.int x,h')/\(x∈Q\/x=z)/\iB H r L h' N/\Fx L h h'/\h'.length=h.length:=by
 refine kr (s.pick K (lim:=3) (z:=3) (m:=m) (c:=c) rfl (by decide) (by decide) (e h)) fun v h1' a1 a2 a3 a4 a5 a6=>?_;by_cases hv:(v:Int)=2
 ·refine qA (a3.near K (m:=m) (c:=c) (a4 _ _ hl hp) hl h1 h2 (e2 h1')) fun x h2' b1 b2 b3 b4 b5=>?_;refine⟨x,h2',?_,Ed b2,b3,a4.trans b4,Eo (bS (nat_lit 11029880778786) tt b5 a5) (bS (nat_lit 11029912302657) tt a5 b5)⟩;rewrite [r9,aK];rewrite [a1,oB,bd,oB];simp only[bd,ej,cq,bt,aD,oB,if_true,decide_true,hv,decide_true,oM,oB,if_true];rewrite [<- ej];exact b1
 ·refine⟨z,h1',?_,Ew rfl,a3,a4,a5⟩;rewrite [r9,aK];rewrite [a1,oB,bd,oB];simp only[bd,ej,cq,bt,aD,oB,if_false,fE,decide_false,hv,decide_false,oM,oB,fE,if_false]
theorem iB.comp{r L pl w:Nat}{Q:List Int}{R:Int->Prop}(s:iB H r L h1 N)(f0:Fx L h h1)(g0:h.length<=h1.length)(hw:w<=1000)(e1:aC cl it m [] h=DJ (.int w,h1))(hp:h1[pl]? =DJ (.list (aa Q)))(hl:L+4<pl)
  (hs:∀ j h,iB H r L h N->h[pl]? =DJ (.list (aa Q))->∃ x h',aC cl e m [DJ (.int j)] h=DJ (.int x,h')/\R x/\iB H r L h' N/\Fx L h h'/\h'.length=h.length):
  ∃ a xs h',aC cl (.comp 1 (.one 0) true it (.elt e)) m [] h=DJ (.ref a,h')/\xs.length=w/\(∀ x∈xs,R x)/\iB H r L h' N/\Fx L h h'/\h'[a]? =DJ (.list (aa xs))/\h.length<=h'.length/\L+4<a:=by
 refine kr (pS (cl:=cl) (m:=m) (h:=h) (h1:=h1) (it:=it) (e:=e) (w:=w) (fun j h'=>iB H r L h' N/\Fx L h1 h'/\h'.length=h1.length) (fun _ x=>R x) e1 hw ⟨s,Fx.refl,rfl⟩ (fun j h2 hj z=>bY z fun b1 b2 b3=>by
  refine qA (hs j h2 b1 (b2 _ _ hl hp)) fun x h' c1 c2 c3 c4 c5=>?_;exact⟨x,h',c1,c2,c3,b2.trans c4,by lia⟩)) fun xs h' a1 a2 a3 a4 a5 a6=>?_
 refine⟨h'.length,xs,_,a1,a2,fun x hx=> ?_,a4.push,(f0.trans a5).trans Fx.push,au,by simp;exact bS (nat_lit 369908731630072897) tt g0 a6,a4.len⟩;refine aq (FJ hx) fun j hj=>?_;exact a3 j x hj
theorem mt{a b:Nat}{xs ys:List Int}(ha:h[a]? =DJ (.list (aa xs)))(hb:h[b]? =DJ (.list (aa ys)))(hl:xs.length+ys.length<=1000):qE h .add (.ref a) (.ref b)=DJ (.ref h.length,h++[.list (aa (xs++ys))]):=by
 exact oL ha (oL hb ((if_pos ⟨rfl,by (refine yF (aQ _) ?_;refine yF (aQ _) ?_);exact aV hl⟩).trans (by (refine yF (iK _ _) ?_;rfl))))
theorem iB.input(s:iB H r L h N)(K:y9 cl)(hi:N.inputs.length<=100)(l0:∀ h,ek m 0 h=DJ (.ref r,h))(l4:∀ h,ek m 4 h=DJ (.ref (L+1),h)):
  ∃ (a:Nat) (h':Hp) (w:Nat),aC cl (.meth (.loc 4) 4 [(.const (.str nm)),(.bin .add (.const (.int 1)) (.call 40 [(.loc 0),(.const (.int 2))]))]) m [] h=DJ (.ref a,h')/\1<=w/\w<=2/\iB H r L h' { N with count:=N.count+w,inputs:=N.inputs++[(nm,ao N.count w)] }/\h'[a]? =DJ (.list (aa (ao N.count w)))/\L+4<a/\Fx L h h'/\h.length<=h'.length:=by
 refine kr (s.pick K (lim:=2) (z:=2) (m:=m) (c:=[]) (es:=[(.loc 0),(.const (.int 2))]) rfl (by decide) (by decide) (by simp only[bd,aw,aA,oB,bW,bx,l0,oB,oM])) fun v h1 a1 a2 a3 a4 a5 a6=>?_;refine kr (K.inp (w:=1+v) (nm:=nm) a3.net (dm (nat_lit 12428367343424752064) tt a2) a3.len (DO hi (by decide))) fun a h2 b1 b2 b3 b4 b5 b6=>?_;refine am (a3.kx b3 b2) fun c1 c2=>?_;refine⟨a,h2,1+v,dA (a:=L+1) (h1:=h) (vs:=[.str nm,.int (1+v:Nat)]) (h2:=h1) (by simp only[bW,bx,l4]) s.net.okI ?_ b1,D5 _ _,dm (nat_lit 11907986392205760) tt a2,c1,b4,b5,a4.trans c2,bS (nat_lit 11029912299554) tt a5 b6⟩;rewrite [aA];simp only[bd,oB];rewrite [aA,jQ];simp only[bd,oB];refine yF a1 ?_;simp only[aw,ec,tO,oB,oM];rfl
theorem oh(l:List Nm):(l.map AV.str).mapM (res h (n+1))=DJ (l.map D.str):=by
 induction l with
 | nil=>rfl
 | cons a l ih=>
  refine yF mC ?_;refine DK Fg ?_;refine yF ih ?_;rfl
theorem mu{h:Hp}{x:Nm}{l:List Nm}:kf h (.str x) (l.map AV.str)=DJ (decide (x∈l)):=by
 unfold kf;refine yF (show dn=23+1 from rfl) ?_;refine yF (oh _) ?_;simp only[CD,oB,oM];congr 1;rewrite[decide_eq_decide];constructor
 ·intro q;refine af (Es.mp q) fun y hy e=>?_;injection e with e;subst e;exact hy
 ·intro q;exact Es.mpr ⟨x,q,rfl⟩
theorem q8{cl:aR}{e:E}{es:List E}{m c:aZ}{h:Hp}{k:Nm}{l:List Nm}(e1:aC cl e m c h=DJ (.str k,h))(e2:iP cl es m c h=DJ (l.map AV.str,h)):aC cl (.cmp .in_ e (.list es)) m c h=DJ (.bool (decide (k∈l)),h++[.list (l.map AV.str)]):=by
 have:bc (h++[.list (l.map AV.str)]) (.str k) (.ref h.length)=DJ (decide (k∈l)):=by
  unfold bc;simp only[bO];exact mu
 dsimp only[aK];refine yF e1 ?_;refine DK (oB _ _) ?_;rewrite[pf];refine yF e2 ?_;simp only[kF,oB,this]
theorem ue{cl:aR}{e:E}{es:List E}{m c:aZ}{h:Hp}{k:Nm}{l:List Nm}(e1:aC cl e m c h=DJ (.str k,h))(e2:iP cl es m c h=DJ (l.map AV.str,h)):aC cl (.cmp .notIn e (.list es)) m c h=DJ (.bool (!decide (k∈l)),h++[.list (l.map AV.str)]):=by
 have:bc (h++[.list (l.map AV.str)]) (.str k) (.ref h.length)=DJ (decide (k∈l)):=by
  unfold bc;simp only[bO];exact mu
 dsimp only[aK];refine yF e1 ?_;refine DK (oB _ _) ?_;rewrite[pf];refine yF e2 ?_;simp only[sf,oB,oM,this]
noncomputable def fe:List Nm:=[eH,bC,ef,fj,kI,aP,df,fq,jj,gM,bU]
noncomputable def oi(k:Nm):Nat:=if k=bC then 1 else if k=aP then 1 else if k=ef then 3 else 2
noncomputable def nA:Nm:=[97]
noncomputable def nB:Nm:=[98]
noncomputable def nM:Nm:=[109]
theorem za(K:y9 cl)(hH:cL H r)(hr:r<H.length)(l0:∀ h,ek m 0 h=DJ (.ref r,h))(l4:∀ h,ek m 4 h=DJ (.ref (H.length+1),h)):
  ∃ (pl:Nat) (h':Hp) (N:NL) (Q:List Int),aC cl (.bin .add (.bin .add (.list [(.const (.int 0)),(.const (.int 1))]) (.meth (.loc 4) 4 [(.const (.str nA)),(.bin .add (.const (.int 1)) (.call 40 [(.loc 0),(.const (.int 2))]))])) (.meth (.loc 4) 4 [(.const (.str nB)),(.bin .add (.const (.int 1)) (.call 40 [(.loc 0),(.const (.int 2))]))])) m [] (H++[.dict (iY H.length ⟨nM,2,[],[],[]⟩),.inst H.length,.list [],.list [],.list []])=DJ (.ref pl,h')/\
   iB H r H.length h' N/\h'[pl]? =DJ (.list (aa Q))/\H.length+4<pl/\N.count=2+(ar N.inputs).length/\ar N.inputs=ao 2 (ar N.inputs).length/\Q=[0,1]++ar N.inputs/\N.outputs=[]/\N.cells=[]/\N.inputs.length=2/\(∀ p∈N.inputs,1<=p.2.length/\p.2.length<=2):=by
 have s0:iB H r H.length (H++[.dict (iY H.length ⟨nM,2,[],[],[]⟩),.inst H.length,.list [],.list [],.list []]) ⟨nM,2,[],[],[]⟩:=
  ⟨aI.new,hH.of fun k o _ e=>ai.push _ _ k o e,fun k o _ e=>ai.push _ _ k o e,hr,DV _⟩
 generalize H++[AO.dict (iY H.length ⟨nM,2,[],[],[]⟩),AO.inst H.length,AO.list [],AO.list [],AO.list []]=h0 at *;have s1:=s0.push (T:=[.list (aa [0,1])]);have g1:(h0++[AO.list (aa [0,1])])[h0.length]? =DJ (.list (aa [0,1])):=au;have b1:=s0.len;refine vF (s1.input K (nm:=nA) (m:=m) (by simp) l0 l4) fun a h2 w c1 c2 c3 c4 c5 c6 c7 c8=>?_;have g2:=c7 _ _ b1 g1;have d1:=mt g2 c5 (by simp[ao];exact dm (nat_lit 12428367343458273728) tt c3);have s2:=c4.push (T:=[.list (aa ([0,1]++ao 2 w))]);have g3:(h2++[AO.list (aa ([0,1]++ao 2 w))])[h2.length]? =DJ (.list (aa ([0,1]++ao 2 w))):=au;have b2:=c4.len;simp only at d1 c4 s2;refine vF (s2.input K (nm:=nB) (m:=m) (by simp) l0 l4) fun a2 h3 w2 e1 e2 e3 e4 e5 e6 e7 e8=>?_;simp only at e4 e5;have g4:=e7 _ _ b2 g3;have d2:=mt g4 e5 (by simp[ao];exact bu (nat_lit 437284301095012348566782057204160) tt e3 c3);have hev:aC cl (.list [(.const (.int 0)),(.const (.int 1))]) m [] h0=DJ (.ref h0.length,h0++[.list (aa [0,1])]):=rfl;refine⟨h3.length,_,_,[0,1]++ao 2 w++ao (2+w) w2,?_,e4.push,bO _ _,e4.len,?_,?_,?_,rfl,rfl,rfl,?_⟩
 ·rewrite[jQ];with_reducible dsimp only[jQ];refine yF hev ?_;refine yF (oB _ _) ?_;refine yF c1 ?_;refine yF (oB _ _) ?_;refine yF d1 ?_;refine DK (oB _ _) ?_;refine yF e1 ?_;refine DK (oB _ _) ?_;refine yF d2 ?_;rfl
 ·simp[ar,ao];exact Li ..
 ·simp only[ar,dR,dS,Fo,G2,EC];apply FU;intro j;unfold ao;refine DK getElem?_append ?_;simp only[DR,E8,DU,DX];split
  ·refine yF (Ff (by assumption)) ?_;refine yF (Ff (by with_unfolding_all exact bS (nat_lit 386615225376) tt ‹_›)) ?_;rfl
  ·by_cases hj:j<w+w2
   ·refine yF (Ff (by lia)) ?_;refine yF (Ff hj) ?_;simp only[oM];congr 1;lia
   ·refine yF (EN (by simp;with_unfolding_all exact kt (nat_lit 11565599260298971171) tt (E6 hj) (Bd _ _))) ?_;refine yF (EN (by simp;exact Fe.mp hj)) ?_;rfl
 ·simp[ar]
 ·intro p hp;simp only[dR,dS,ER,EW,or_false]at hp;rcases hp with rfl | rfl<;>(simp[ao];norm_cast)
theorem aL(e1:aC cl e m c h=DJ (v,h1))(e2:iP cl es m c h1=DJ (vs,h2)):iP cl (e::es) m c h=DJ (v::vs,h2):=bs e1 (bs e2 rfl)
theorem dk:iP cl [] m c h=DJ ([],h):=rfl
theorem iZ(e1:aC cl a m c h=DJ (x,h1))(e2:aC cl b m c h1=DJ (y,h2))(e3:qE h2 o x y=r):aC cl (.bin o a b) m c h=r:=bs e1 (bs e2 e3)
theorem fK{r:Bool}(e1:aC cl a m c h=DJ (x,h1))(e2:aC cl b m c h1=DJ (y,h2))(e3:nG h2 o x y=DJ r):aC cl (.cmp o a b) m c h=DJ (.bool r,h2):=bs e1 (bs e2 (bs e3 rfl))
theorem jZ(e1:aC cl a m c h=DJ (x,h1))(e2:aC cl b m c h1=DJ (y,h2))(e3:fS h2 x y=DJ v):aC cl (.sub a b) m c h=DJ (v,h2):=bs e1 (bs e2 (bs e3 rfl))
theorem ng(e1:iP cl es m c h=DJ (vs,h1)):aC cl (.tup es) m c h=DJ (.tup vs,h1):=bs e1 rfl
theorem lw(e1:iP cl es m c h=DJ (vs,h1)):aC cl (.list es) m c h=DJ (.ref h1.length,h1++[.list vs]):=bs e1 rfl
theorem Aw(e1:iP cl es m c h=DJ (vs,h1))(e2:pH h1 b vs=r):aC cl (.bi b es) m c h=r:=bs e1 e2
theorem oj(i:Int):(fy i).length<=3:=by unfold fy;(repeat' split)<;>simp
theorem xA{t:Nat}(ht:t<256):pH h .str [.int t]=DJ (.str (fy t),h):=by
 exact if_pos (by unfold qD;exact⟨FL _,G9.mpr (by assumption)⟩)
theorem uY(hl:a.length+b.length<=1000):qE h .add (.str a) (.str b)=DJ (.str (a++b),h):=by
 exact if_pos ⟨rfl,aV hl⟩
theorem zb:∀ k∈fe,(br (bg [(.str bC,.int 1),(.str aP,.int 1),(.str ef,.int 3)]) (.str k)).getD (.int 2)= .int (oi k:Nat):=by
 intro k hk;unfold fe at hk;simp only[ER,EW,or_false]at hk;rcases hk with rfl | rfl | rfl | rfl | rfl | rfl | rfl | rfl | rfl | rfl | rfl<;>rfl
theorem xB(hk:k∈fe)(h:k∉[df,bU]):aT k (oi k) .none:=by
 unfold fe at hk;simp only[ER,EW,or_false]at hk h;rcases hk with rfl | rfl | rfl | rfl | rfl | rfl | rfl | rfl | rfl | rfl | rfl;case inr.inl=>exact aT.not
 case inr.inr.inl=>exact aT.mux
 case inr.inr.inr.inr.inr.inl=>exact aT.buf
 case inr.inr.inr.inr.inr.inr.inl=>exact absurd (Ed rfl) h
 case inr.inr.inr.inr.inr.inr.inr.inr.inr.inr=>exact absurd (Ew rfl) h
 all_goals exact aT.gate _ (by decide)
theorem Ax:∀ w:Nat,1<=w->w<=3->bA .pow 2 (w:Int)=DJ ((2 ^ w:Nat):Int)/\bA .pow 2 ((2 ^ w:Nat):Int)=DJ ((2 ^ 2 ^ w:Nat):Int)/\1<=2 ^ 2 ^ w/\2 ^ 2 ^ w<=256:=by
 intro w h1 h2;have:w=1\/w=2\/w=3:=by lia
 rcases this with rfl | rfl | rfl<;>exact ⟨rfl,rfl,by decide,by decide⟩
theorem aI.setPool{L pl:Nat}{Q:List Int}(q:aI h L N)(hp:h[pl]? =DJ (.list (aa Q)))(hl:L+4<pl)(h4:4<=Q.length)(hi:∀ p∈N.inputs,p.2.length<=3)(ho:∀ p∈N.outputs,p.2.length<=3):aI (h.set pl o) L N:=by
 have key:∀ (a:Nat) (l:List Int),l.length<=3->h[a]? =DJ (.list (aa l))->(h.set pl o)[a]? =DJ (.list (aa l)):=by
  intro a l hl e;rewrite[gN]
  ·exact e
  ·intro e2;subst e2;rw[hp]at e;have:(aa Q).length=(aa l).length:=by injection e with e;injection e with e;refine yF e ?_;rfl
   rw[aQ,aQ]at this;exact Gc 0 (bu (nat_lit 422484955327627611585) tt h4 this hl)
 obtain⟨d1,d2,⟨vi,d3,d4⟩,⟨vo,d5,d6⟩,d7⟩:=q;refine⟨?_,?_,⟨vi,?_,d4.1,fun j p' e=> ?_⟩,⟨vo,?_,d6.1,fun j p' e=> ?_⟩,?_⟩
 ·refine yF (gN (by with_unfolding_all exact Ep (bu (nat_lit 12129358074304) tt hl))) ?_;exact d1
 ·refine yF (gN (by with_unfolding_all exact Ep (bu (nat_lit 397743315196596672) tt hl))) ?_;exact d2
 ·refine yF (gN (by with_unfolding_all exact Ep (bu (nat_lit 397744414708224448) tt hl))) ?_;exact d3
 ·refine aM (d4.2 j p' e) fun a' e1 e2 e3=>?_;exact⟨a',e1,e2,key _ _ (hi _ (D8 e)) e3⟩
 ·refine yF (gN (by with_unfolding_all exact Ep (bu (nat_lit 397745514219852224) tt hl))) ?_;exact d5
 ·refine aM (d6.2 j p' e) fun a' e1 e2 e3=>?_;exact⟨a',e1,e2,key _ _ (ho _ (D8 e)) e3⟩
 ·refine yF (gN (Ep hl)) ?_;exact d7
theorem iB.setPool{r L pl:Nat}{Q:List Int}(s:iB H r L h N)(hp:h[pl]? =DJ (.list (aa Q)))(hl:L+4<pl)(h4:4<=Q.length)(hi:∀ p∈N.inputs,p.2.length<=3)(ho:∀ p∈N.outputs,p.2.length<=3):iB H r L (h.set pl o) N:=
 ⟨s.net.setPool hp hl h4 hi ho,s.hand.of fun i o hi e=>by (refine yF (gN (by have:=s.rl;with_unfolding_all exact Ep (kt (nat_lit 13023763868009171800515) tt hi this hl))) ?_);exact e,fun i o q e=>by (refine yF (gN (by have:=(gS.mp e).1;have:=s.hl;with_unfolding_all exact Ep (kt (nat_lit 13023799895706679136707) tt ‹_› this hl))) ?_);exact s.fr i o q e,s.rl,s.hl⟩
theorem we{r L pl oa w:Nat}{Q S CO:List Int}(s:iB H r L h N)(K:y9 cl)(hp:h[pl]? =DJ (.list (aa Q)))(ho:h[oa]? =DJ (.list (aa S)))(hpl:L+4<pl)(hoa:L+4<oa)(hne:oa≠pl)(b:jz N Q S CO 0)(hc:CO.length<10)(ok:aT k w p)
  (l0:∀ h,ek m 0 h=DJ (.ref r,h)) (l4:∀ h,ek m 4 h=DJ (.ref (L+1),h)) (l5:∀ h,ek m 5 h=DJ (.ref pl,h)) (l8:∀ h,ek m 8 h=DJ (.str k,h)) (l9:∀ h,ek m 9 h=DJ (.int w,h)) (l10:∀ h,ek m 10 h=DJ (p,h)):
  ∃ h' N' x,aC cl (.bm .append (.loc 5) [(.meth (.loc 4) 6 [(.loc 8),(.comp 1 (.one 0) true (.loc 9) (.elt (.call 42 [(.free 0),(.free 5)]))),(.loc 10)])]) m [] h=DJ (.none,h')/\iB H r L h' N'/\h'[pl]? =DJ (.list (aa (Q++[x])))/\h'[oa]? =DJ (.list (aa S))/\jz N' (Q++[x]) S (CO++[x]) 0/\N'.outputs=N.outputs:=by
 have hw:=du ok;have h1:=b.p1;have h2:=b.p2;refine vF (s.comp (w:=w) (m:=m) (it:= .loc 9) (e:= .call 42 [(.free 0),(.free 5)]) (Q:=Q) (R:=fun x=>x∈Q) Fx.refl (DV _) (dm (nat_lit 379283663310272) tt hw.2) (by simp only[bW,bx,l9]) hp hpl (fun j h3 s3 g3=>s3.near K g3 hpl (dm (nat_lit 344182817422) tt h1) (bu (nat_lit 407252732443658270665153) tt h2 hc) (by simp only[aw,aA,oB,bW,bx,l0,l5,oB,oM]))) fun a xs h1' a1 a2 a3 a4 a5 a6 a7 a8=>?_;refine fu (K.cell (k:=k) (p:=p) a4.net a6 a8 (by
  have:N.cells.length=(outs N).length:=(DR _).symm;refine yF this ?_;refine yF b.ou ?_;refine yF DU ?_;refine yF EG ?_;have:=b.cl;have:=b.sl;exact bu (nat_lit 12726648160178129988032) tt (EV _ _) hc)) fun h2' b1 b2 b3 b4=>?_
 refine am (a4.kx b3 b2) fun c1 c2=>?_;have g1:=c2 _ _ hpl (a5 _ _ hpl hp);have g2:=c2 _ _ hoa (a5 _ _ hoa ho);have hx:(aa Q)++[AV.int N.count]=aa (Q++[N.count]):=by unfold aa;simp
 have hm:aC cl (.meth (.loc 4) 6 [(.loc 8),(.comp 1 (.one 0) true (.loc 9) (.elt (.call 42 [(.free 0),(.free 5)]))),(.loc 10)]) m [] h=DJ (.int N.count,h2'):=
  dA (a:=L+1) (h1:=h) (vs:=[.str k,.ref a,p]) (h2:=h1') (by simp only[bW,bx,l4]) s.net.okI (aL (by simp only[bW,bx,l8]) (aL a1 (aL (by simp only[bW,bx,l10]) dk))) b1
 have hap:=cK (cl:=cl) (o:= .loc 5) (m:=m) (c:=[]) (h:=h) (h1:=h) (a:=pl) (by simp only[bW,bx,l5]) hp hm g1 (by refine yF (aQ _) ?_;exact bu (nat_lit 407252732443658270665153) tt h2 hc);rw[hx]at hap;refine⟨_,_,N.count,hap,?_,bH _ _ _ (gS.mp g1).1,?_,b.comb (k:=k) (ins:=xs) (p:=p) (by refine yF a2 ?_;exact ok) a3 hc,rfl⟩
 ·exact c1.setPool g1 hpl h1 (fun p hp=>by have:=b.ins p hp;exact Ha this) b.op
 ·refine yF (gN (Hs (by assumption))) ?_;exact g2
theorem j0{x:Bool}(e1:aC cl a m [] h=DJ (.bool x,h1)):f9 cl a m h=DJ (x,h1):=by
 exact bs e1 rfl
theorem gm{c x:Int}{w:Nat}:x∈ao c w↔c<=x/\x<c+w:=by
 unfold ao;rewrite[Es];constructor
 ·intro z1;refine af z1 fun i hi z42=>?_;clear z1;subst z42;rw[E7]at hi;exact⟨Int.le_add_of_nonneg_right (FL _),Int.add_lt_add_left (G9.mpr ‹_›) _⟩
 ·intro z1;refine am z1 fun h1 h2=>?_;clear z1;exact⟨(x - c).toNat,by rewrite[E7];exact (Int.toNat_lt (IE h1)).mpr (Int.sub_left_lt_of_lt_add h2),by rewrite[Ho (IE h1),Int.add_comm];exact Int.sub_add_cancel x c⟩
theorem jD{c:Int}{w:Nat}:(ao c w).Nodup:=by
 unfold ao;unfold NI;rewrite[L1];exact IB.imp (fun h e=>h (FP.mp (Int.add_left_cancel e)))
theorem gp{c:Int}{w:Nat}:(ao c w).length=w:=by unfold ao;simp
theorem uZ{r L a oa t:Nat}{S ins:List Int}{o:Int}(s:iB H r L h N)(K:y9 cl)(ha:h[a]? =DJ (.list (aa ins)))(ho:h[oa]? =DJ (.list (aa S)))(hl:N.cells.length<=1000)(hS:S[t]? =DJ o)
  (l4:∀ h,ek m 4 h=DJ (.ref (L+1),h)) (l6:∀ h,ek m 6 h=DJ (.ref oa,h)) (l11:∀ h,ek m 11 h=DJ (.int t,h)) (l15:∀ h,ek m 15 h=DJ (.ref a,h)) (ep:aC cl pe m [] h=DJ (p,h)):
  ∃ h',aC cl (.meth (.loc 4) 7 [(.sub (.loc 6) (.loc 11)),(.const (.str k)),(.loc 15),pe]) m [] h=DJ (.none,h')/\iB H r L h' { N with cells:=N.cells++[⟨k,o,ins,p⟩] }/\Fx L h h':=by
 have d:=K.drive (out:=o) (k:=k) (p:=p) s.net ha hl;refine am (s.kx (Kx.set (D5 _ _) (DV _)) (s.net.pushCell ⟨k,o,ins,p⟩)) fun c1 c2=>?_;refine⟨_,dA (a:=L+1) (h1:=h) (vs:=[.int o,.str k,.ref a,p]) (h2:=h) (by simp only[bW,bx,l4]) s.net.okI (aL (h1:=h) ?_ (aL (h1:=h) rfl (aL (h1:=h) (by simp only[bW,bx,l15]) (aL ep dk)))) d,c1,c2⟩;have:(aa S)[t]? =DJ (.int o):=by unfold aa;refine DK DX ?_;refine yF hS ?_;rfl
 simp only[bD,oB,bW,bx,l6,l11,oB,er ho,this,oM]
theorem wf{n r kd:Nat}{H:Hp}(hH:cL H r)(hk:H[kd]? =DJ (.list (fe.map .str)))(hkr:kd≠r):∃ L h' N,ad P 1000 (n+4) 43 [.ref r,.int 10,.int 2,.ref kd] H=DJ (.ref (L+1),h')/\aI h' L N/\cn N/\(∀ k o,k≠r->H[k]? =DJ o->h'[k]? =DJ o)/\H.length<=L:=by
 obtain⟨v,h',e,L,N,rfl,r1,r2,r3,r4⟩:∃ v h',ad P 1000 (n+4) 43 [.ref r,.int 10,.int 2,.ref kd] H=DJ (v,h')/\∃ L N,v= .ref (L+1)/\aI h' L N/\cn N/\(∀ k o,k≠r->H[k]? =DJ o->h'[k]? =DJ o)/\H.length<=L:=by
  let Q0:AV->Hp->Prop:=fun v h'=>∃ L N,v= .ref (L+1)/\aI h' L N/\cn N/\(∀ k o,k≠r->H[k]? =DJ o->h'[k]? =DJ o)/\H.length<=L
  refine bQ (Q:=Q0) (fn:=io) rfl rfl ?_;unfold io;have hrl:r<H.length:=by (refine eT hH fun c xs i d z16=>?_;clear hH;refine fL z16 fun s z a uu=>?_;clear z16);exact (gS.mp a).1
  have K:y9 (ad P 1000 (n+3)):=Dy;generalize ad P 1000 (n+3)=cl at *;have hinit:=K.init (nm:=nM) (H:=H);simp only[mN,mC,dR,dS,DY,Ee,Nat.reduceSub,Ar,Bg,BB,xl,xm,xn,xp];refine ac (v:= .ref (H.length+1)) (m1:=[DJ (.ref r),DJ (.int 10),DJ (.int 2),DJ (.ref kd),DJ (.ref (H.length+1)),none,none,none,none,none,none,none,none,none,none,none]) (uW (vs:=[.str nM]) (h1:=H) rfl hinit) rfl ?_;refine Co (za (cl:=cl) (m:=[DJ (.ref r),DJ (.int 10),DJ (.int 2),DJ (.ref kd),DJ (.ref (H.length+1)),none,none,none,none,none,none,none,none,none,none,none]) K hH hrl (fun h=>rfl) (fun h=>rfl)) fun pl h1 N1 Q1 a1 a2 a3 a4 a5 a6 a7 a8 z16=>?_;refine bY z16 fun a9 a10 a11=>?_;clear z16;refine ac (v:= .ref pl) (h1:=h1) (m1:=[DJ (.ref r),DJ (.int 10),DJ (.int 2),DJ (.ref kd),DJ (.ref (H.length+1)),DJ (.ref pl),none,none,none,none,none,none,none,none,none,none]) a1 rfl ?_;clear hinit a1;generalize hL:H.length=L at *;refine kr (a2.pick K (lim:=3) (z:=3) (m:=[DJ (.ref r),DJ (.int 10),DJ (.int 2),DJ (.ref kd),DJ (.ref (L+1)),DJ (.ref pl),none,none,none,none,none,none,none,none,none,none]) (c:=[]) (es:=[(.loc 0),(.bin .add (.loc 2) (.const (.int 1)))]) rfl (by decide) (by decide) rfl) fun v1 h2 b1 b2 b3 b4 b5 uu=>?_;refine fu (K.nets (w:=v1) b3.net (dm (nat_lit 379283663343040) tt b2) b3.len) fun h3 c1 c2 c3 c4=>?_;refine am (b3.kx c3 c2) fun d1 d2=>?_;have s3:=d1.push (T:=[.list (aa (ao N1.count v1))]);have g3:(h3++[AO.list (aa (ao N1.count v1))])[h3.length]? =DJ (.list (aa (ao N1.count v1))):=au;have p3:=Fx.push (L:=L) (T:=[AO.list (aa (ao N1.count v1))]) _ _ a4 (d2 _ _ a4 (b4 _ _ a4 a3));have hoa:=d1.len;have hplt:=(gS.mp (d2 _ _ a4 (b4 _ _ a4 a3))).1;refine ac (v:= .ref h3.length) (h1:=h3++[.list (aa (ao N1.count v1))]) (m1:=[DJ (.ref r),DJ (.int 10),DJ (.int 2),DJ (.ref kd),DJ (.ref (L+1)),DJ (.ref pl),DJ (.ref h3.length),none,none,none,none,none,none,none,none,none]) (dA (a:=L+1) (h1:=h1) (vs:=[.int v1]) (h2:=h2) rfl a2.net.okI (aL b1 dk) c1) rfl ?_;have hQ1:4<=Q1.length:=by
   refine yF a7 ?_;refine eR (vZ a10) fun x y hN=>?_;rw[hN]at a11 ⊢;have:=a11 x (by simp);have:=a11 y (by simp);simp[ar];lia
  have hQ2:Q1.length<=6:=by
   refine yF a7 ?_;refine eR (vZ a10) fun x y hN=>?_;rw[hN]at a11 ⊢;have:=a11 x (by simp);have:=a11 y (by simp);simp[ar];lia
  generalize hoad:h3.length=oa at *;generalize h3++[AO.list (aa (ao N1.count v1))]=h4 at *;have binit:jz { N1 with count:=N1.count+v1 } (Q1++ao N1.count v1) (ao N1.count v1) [] 0:=by
   have hsr:bq { N1 with count:=N1.count+v1 }=[0,1]++ar N1.inputs:=rfl;have hmem:∀ x,x∈bq { N1 with count:=N1.count+(v1:Int) }↔0<=x/\x<N1.count:=by
    intro x;refine yF hsr ?_;refine yF a6 ?_;refine yF a5 ?_;rewrite[DZ];rewrite[gm];rewrite[ER];rewrite[ER];simp only[EW,or_false];lia
   refine⟨?_,?_,?_,a10,fun p hp=>(a11 p hp).2,by refine yF gp ?_;exact FT b2,Gz _,by simp,?_,by refine yF DU ?_;exact bu (nat_lit 360674859745934) tt hQ1,by (refine yF DU ?_;refine yF gp ?_);simp;exact bu (nat_lit 397118443525477063104) tt b2 hQ2,?_,?_,?_,?_,?_,by refine yF a8 ?_;simp,?_⟩
   ·intro x hx;rw[EC,DZ,hmem,gm]at hx;simp only;lia
   ·refine yF (EC _) ?_;rewrite[Fa];refine⟨?_,jD,fun a ha b hb e=> ?_⟩
    ·refine yF hsr ?_;refine yF a6 ?_;rewrite[Fa];refine⟨by decide,jD,fun a ha b hb e=> ?_⟩;rw[gm]at hb;simp only[ER,EW,or_false]at ha;lia
    ·rw[hmem]at ha;rw[gm]at hb;lia
   ·rewrite[hmem];refine yF a5 ?_;have:1<=(ar N1.inputs).length:=by rw[a7]at hQ1;simp at hQ1;exact dm (nat_lit 344182817358) tt hQ1
    lia
   ·intro x hx;refine yF (EC _) ?_;rewrite[DZ];rw[DZ]at hx;rcases hx with hx | hx
    ·exact Ed (by (refine yF hsr ?_;refine yB a7 ?_);exact hx)
    ·exact Ew hx
   ·unfold outs;simp[a9]
   ·intro c hc;simp[a9]at hc
   ·intro c hc;simp[a9]at hc
   ·simp only[a9];rfl
   ·intro x hx;simp[a8,ar]at hx
   ·intro p hp;simp[a8]at hp
  have hadd:jl h4 .add (.ref pl) (.ref oa)=DJ (.ref pl,h4.set pl (.list (aa (Q1++ao N1.count v1)))):=by
   exact oL p3 (oL g3 ((if_pos ⟨rfl,D4 hplt,by (refine yF (aQ _) ?_;refine yF (aQ _) ?_;refine yF gp ?_);exact aV (by with_unfolding_all exact bu (nat_lit 407252741125740313270720) tt b2 hQ2)⟩).trans (by (refine yF (iK _ _) ?_;rfl))))
  refine jX (x:= .ref pl) (v:= .ref oa) (r:= .ref pl) (h1:=h4) (h2:=h4) (m1:=[DJ (.ref r),DJ (.int 10),DJ (.int 2),DJ (.ref kd),DJ (.ref (L+1)),DJ (.ref pl),DJ (.ref oa),none,none,none,none,none,none,none,none,none]) rfl rfl hadd rfl ?_;have s4:=s3.setPool (o:= .list (aa (Q1++ao N1.count v1))) p3 a4 hQ1 (fun p hp=>by have:=a11 p hp;exact dm (nat_lit 364468586944) tt this.2) (fun p hp=>by simp[a8]at hp);have p4:(h4.set pl (.list (aa (Q1++ao N1.count v1))))[pl]? =DJ (.list (aa (Q1++ao N1.count v1))):=bH _ _ _ (gS.mp p3).1;have g4:(h4.set pl (.list (aa (Q1++ao N1.count v1))))[oa]? =DJ (.list (aa (ao N1.count v1))):=by refine DK (gN (D4 hplt)) ?_;exact g3
  generalize h4.set pl (AO.list (aa (Q1++ao N1.count v1)))=h5 at *;clear s3 p3 g3 hadd d1 d2 c1 c2 c3 c4 b1 b3 b4;have hv1:(ao N1.count v1).length=v1:=gp;generalize ao N1.count v1=S at *;generalize Q1++S=Q2 at *;have hout0:({ N1 with count:=N1.count+(v1:Int) }:NL).outputs=[]:=a8;generalize ({ N1 with count:=N1.count+(v1:Int) }:NL)=N2 at *;refine kr (s4.pick K (lim:=11) (z:=11) (m:=[DJ (.ref r),DJ (.int 10),DJ (.int 2),DJ (.ref kd),DJ (.ref (L+1)),DJ (.ref pl),DJ (.ref oa),none,none,none,none,none,none,none,none,none]) (c:=[]) (es:=[(.loc 0),(.bin .add (.loc 1) (.const (.int 1)))]) rfl (by decide) (by decide) rfl) fun v2 h6 b1 b2 b3 b4 b5 uu=>?_;let St1:Nat->aZ->Hp->Prop:=fun j m h=>(∃ x7 x8 x9 x10,m=[DJ (.ref r),DJ (.int 10),DJ (.int 2),DJ (.ref kd),DJ (.ref (L+1)),DJ (.ref pl),DJ (.ref oa),x7,x8,x9,x10,none,none,none,none,none])/\∃ N Q CO,iB H r L h N/\h[pl]? =DJ (.list (aa Q))/\h[oa]? =DJ (.list (aa S))/\jz N Q S CO 0/\CO.length=j/\N.outputs=[]
  refine da (n:=v2) (h1:=h6) St1
   b1 (dm (nat_lit 379283663351232) tt b2) ⟨⟨none,none,none,none,rfl⟩,N2,Q2,[],b3,b4 _ _ a4 p4,b4 _ _ hoa g4,binit,rfl,hout0⟩ ?_ ?_
  ·intro j m h hj z5;refine am z5 fun z160 z175=>?_;clear z5;refine eT z160 fun x7 x8 x9 x10 z224=>?_;clear z160;subst z224;refine vE z175 fun N Q CO s hp ho bi hc hout=>?_;clear z175;refine⟨[DJ (.ref r),DJ (.int 10),DJ (.int 2),DJ (.ref kd),DJ (.ref (L+1)),DJ (.ref pl),DJ (.ref oa),DJ (.int j),x8,x9,x10,none,none,none,none,none],rfl,?_⟩;have rest:∀ (k:Nm) (w:Nat) (p:AV) (h:Hp),iB H r L h N->h[pl]? =DJ (.list (aa Q))->h[oa]? =DJ (.list (aa S))->aT k w p->Ok (cF cl 1000 [.expr (.bm .append (.loc 5) [(.meth (.loc 4) 6 [(.loc 8),(.comp 1 (.one 0) true (.loc 9) (.elt (.call 42 [(.free 0),(.free 5)]))),(.loc 10)])])] [DJ (.ref r),DJ (.int 10),DJ (.int 2),DJ (.ref kd),DJ (.ref (L+1)),DJ (.ref pl),DJ (.ref oa),DJ (.int j),DJ (.str k),DJ (.int w),DJ p,none,none,none,none,none] h) (fun fl m' h'=>(∀ w,fl≠ .ret w)/\((∃ x7 x8 x9 x10,m'=[DJ (.ref r),DJ (.int 10),DJ (.int 2),DJ (.ref kd),DJ (.ref (L+1)),DJ (.ref pl),DJ (.ref oa),x7,x8,x9,x10,none,none,none,none,none])/\∃ N Q CO,iB H r L h' N/\h'[pl]? =DJ (.list (aa Q))/\h'[oa]? =DJ (.list (aa S))/\jz N Q S CO 0/\CO.length=j+1/\N.outputs=[])):=by
    intro k w p h s hp ho ok;refine vE (we (cl:=cl) (m:=[DJ (.ref r),DJ (.int 10),DJ (.int 2),DJ (.ref kd),DJ (.ref (L+1)),DJ (.ref pl),DJ (.ref oa),DJ (.int j),DJ (.str k),DJ (.int w),DJ p,none,none,none,none,none]) s K hp ho a4 hoa (Ep hplt) bi (bS (nat_lit 436309155223510052290) tt hc hj b2) ok (fun h=>rfl) (fun h=>rfl) (fun h=>rfl) (fun h=>rfl) (fun h=>rfl) (fun h=>rfl)) fun h' N' x e1 e2 e3 e4 e5 e6=>?_;exact cZ e1 (aN ⟨by simp,⟨_,_,_,_,rfl⟩,N',_,_,e2,e3,e4,e5,by simp;exact hc,by refine DK e6 ?_;exact hout⟩)
   have hkh:=s.fr _ _ hkr hk;refine kr (s.pick K (lim:=11) (z:=11) (m:=[DJ (.ref r),DJ (.int 10),DJ (.int 2),DJ (.ref kd),DJ (.ref (L+1)),DJ (.ref pl),DJ (.ref oa),DJ (.int j),x8,x9,x10,none,none,none,none,none]) (c:=[]) (es:=[(.loc 0),(.bi .len [(.loc 3)])]) rfl (by decide) (by decide) (by simp only[aB,aU,cO,aw,aA,oB,dc hkh,DR];rfl)) fun v3 h7 c1 c2 c3 c4 c5 c6=>?_;have hkl:fe.length=11:=rfl;have hkv:(fe.map AV.str)[v3]? =DJ (.str fe[v3]):=by (refine DK DX ?_;refine yF (gE (Ea c2 (by decide))) ?_);rfl
   have hkm:fe[v3]∈fe:=Ey _;have hkh7:=c3.fr _ _ hkr hk;generalize fe[v3]=k at *;refine ac (v:= .str k) (h1:=h7) (m1:=[DJ (.ref r),DJ (.int 10),DJ (.int 2),DJ (.ref kd),DJ (.ref (L+1)),DJ (.ref pl),DJ (.ref oa),DJ (.int j),DJ (.str k),x9,x10,none,none,none,none,none]) (jZ (x:= .ref kd) (y:= .int v3) (h1:=h) (h2:=h7) rfl c1 (by refine DK (er hkh7) ?_;exact hkv)) rfl ?_;have hw0:=zb k hkm;have hdg:((h7++[AO.dict (bg [(.str bC,.int 1),(.str aP,.int 1),(.str ef,.int 3)])])[h7.length]? :Option AO)=DJ (.dict (bg [(.str bC,.int 1),(.str aP,.int 1),(.str ef,.int 3)])):=au;refine ac (v:= .int (oi k:Nat)) (h1:=h7++[.dict (bg [(.str bC,.int 1),(.str aP,.int 1),(.str ef,.int 3)])]) (m1:=[DJ (.ref r),DJ (.int 10),DJ (.int 2),DJ (.ref kd),DJ (.ref (L+1)),DJ (.ref pl),DJ (.ref oa),DJ (.int j),DJ (.str k),DJ (.int (oi k:Nat)),x10,none,none,none,none,none]) (by
    simp only[bd,aB,aU,vI,mj,aw,aA,oB,oM,if_true,fz,vN,if_true,vM,hdg,B5,wR,hw0]) rfl ?_
   have s7:=c3.push (T:=[.dict (bg [(.str bC,.int 1),(.str aP,.int 1),(.str ef,.int 3)])]);have p7:=Fx.push (L:=L) (T:=[.dict (bg [(.str bC,.int 1),(.str aP,.int 1),(.str ef,.int 3)])]) _ _ a4 (c4 _ _ a4 hp);have o7:=Fx.push (L:=L) (T:=[.dict (bg [(.str bC,.int 1),(.str aP,.int 1),(.str ef,.int 3)])]) _ _ hoa (c4 _ _ hoa ho);generalize h7++[AO.dict (bg [(.str bC,.int 1),(.str aP,.int 1),(.str ef,.int 3)])]=h8 at *;refine ac (v:= .none) (h1:=h8) (m1:=[DJ (.ref r),DJ (.int 10),DJ (.int 2),DJ (.ref kd),DJ (.ref (L+1)),DJ (.ref pl),DJ (.ref oa),DJ (.int j),DJ (.str k),DJ (.int (oi k:Nat)),DJ .none,none,none,none,none,none]) rfl rfl ?_;have s9:=s7.push (T:=[.list ([df,bU].map .str)]);have p9:=Fx.push (L:=L) (T:=[.list ([df,bU].map .str)]) _ _ a4 p7;have o9:=Fx.push (L:=L) (T:=[.list ([df,bU].map .str)]) _ _ hoa o7;refine cg (c:=decide (k∈[df,bU])) (h1:=h8++[.list ([df,bU].map .str)]) (j0 (q8 (k:=k) (l:=[df,bU]) rfl rfl)) ?_ ?_
   ·intro hkc;have hkc:=of_decide_eq_true hkc;generalize h8++[AO.list ([df,bU].map .str)]=h9 at *;refine kr (s9.pick K (lim:=3) (z:=3) (m:=[DJ (.ref r),DJ (.int 10),DJ (.int 2),DJ (.ref kd),DJ (.ref (L+1)),DJ (.ref pl),DJ (.ref oa),DJ (.int j),DJ (.str k),DJ (.int (oi k:Nat)),DJ .none,none,none,none,none,none]) (c:=[]) (es:=[(.loc 0),(.const (.int 3))]) rfl (by decide) (by decide) rfl) fun v4 h10 d1 d2 d3 d4 d5 uu=>?_;obtain⟨w,hw⟩:∃ w,w=1+v4:=⟨_,rfl⟩;refine ac (v:= .int w) (h1:=h10) (m1:=[DJ (.ref r),DJ (.int 10),DJ (.int 2),DJ (.ref kd),DJ (.ref (L+1)),DJ (.ref pl),DJ (.ref oa),DJ (.int j),DJ (.str k),DJ (.int w),DJ .none,none,none,none,none,none]) (iZ (x:= .int 1) (y:= .int v4) (h1:=h9) (h2:=h10) rfl d1 (by simp only[ec,tO,oM,hw];rfl)) rfl ?_;refine eQ (Ax w (bu (nat_lit 352443313472960) tt hw) (bu (nat_lit 391345224281628200385) tt hw d2)) fun w1 w2 w3 w4=>?_;refine kr (d3.pick K (lim:=2 ^ 2 ^ w) (z:=((2 ^ 2 ^ w:Nat):Int)) (m:=[DJ (.ref r),DJ (.int 10),DJ (.int 2),DJ (.ref kd),DJ (.ref (L+1)),DJ (.ref pl),DJ (.ref oa),DJ (.int j),DJ (.str k),DJ (.int w),DJ .none,none,none,none,none,none]) (c:=[]) (es:=[(.loc 0),(.bin .pow (.const (.int 2)) (.bin .pow (.const (.int 2)) (.loc 9)))]) rfl w3 (DO w4 (by decide)) (by simp only[bd,aB,aU,jQ,aw,aA,ec,oB,oM,w1,w2])) fun v5 h11 f1 f2 f3 f4 f5 uu=>?_;refine ac (v:= .int v5) (h1:=h11) (m1:=[DJ (.ref r),DJ (.int 10),DJ (.int 2),DJ (.ref kd),DJ (.ref (L+1)),DJ (.ref pl),DJ (.ref oa),DJ (.int j),DJ (.str k),DJ (.int w),DJ (.int v5),none,none,none,none,none]) f1 rfl ?_;have p11:=f4 _ _ a4 (d4 _ _ a4 p9);have o11:=f4 _ _ hoa (d4 _ _ hoa o9);have hsl:=oj v5;by_cases hcell:k=bU
    ·subst hcell;refine ac (v:= .tup [.str ([67]++fy v5),.int v5]) (h1:=h11) (m1:=[DJ (.ref r),DJ (.int 10),DJ (.int 2),DJ (.ref kd),DJ (.ref (L+1)),DJ (.ref pl),DJ (.ref oa),DJ (.int j),DJ (.str bU),DJ (.int w),DJ (.tup [.str ([67]++fy v5),.int v5]),none,none,none,none,none]) (by
      simp only[bd,aB,aU,jQ,aK,r9,cG,cO,aw,aA,cq,bt,bG,oB,if_true,decide_true,decide_true,if_true,xA (h:=h11) (t:=v5) (Ea f2 w4)];refine yF (uY (by simp;with_unfolding_all exact dm (nat_lit 12428367343424720320) tt hsl)) ?_;rfl) rfl (cS ?_)
     exact rest _ w _ h11 f3 p11 o11 (aT.cell w v5 _ (bu (nat_lit 352443313472960) tt hw) (bu (nat_lit 391345224281628200385) tt hw d2))
    ·have hlut:k=df:=by simp only[ER,EW,or_false]at hkc;exact hkc.resolve_right hcell
     subst hlut;refine ac (v:= .int v5) (h1:=h11) (m1:=[DJ (.ref r),DJ (.int 10),DJ (.int 2),DJ (.ref kd),DJ (.ref (L+1)),DJ (.ref pl),DJ (.ref oa),DJ (.int j),DJ (.str df),DJ (.int w),DJ (.int v5),none,none,none,none,none]) (by
      simp only[bd,aB,aU,jQ,aK,r9,cG,cO,aw,aA,cq,bt,bG,oB,if_false,fE,decide_false,hcell,decide_false,fE,if_false]) rfl (cS ?_)
     exact rest _ w _ h11 f3 p11 o11 (aT.lut w v5 (bu (nat_lit 352443313472960) tt hw) (bu (nat_lit 391345224281628200385) tt hw d2))
   ·intro hkc;have hkc:=of_decide_eq_false hkc;exact cS (rest k (oi k) _ _ s9 p9 o9 (xB hkm hkc))
  ·intro m h z3;refine am z3 fun z100 z115=>?_;clear z3;refine eT z100 fun x7 x8 x9 x10 z164=>?_;clear z100;subst z164;refine vE z115 fun N Q CO s hp ho bi hc hout=>?_;clear z115;let St2:Nat->aZ->Hp->Prop:=fun j m h=>(∃ x11 x12 x13 x14 x15,m=[DJ (.ref r),DJ (.int 10),DJ (.int 2),DJ (.ref kd),DJ (.ref (L+1)),DJ (.ref pl),DJ (.ref oa),x7,x8,x9,x10,x11,x12,x13,x14,x15])/\∃ N,iB H r L h N/\h[pl]? =DJ (.list (aa Q))/\h[oa]? =DJ (.list (aa S))/\jz N Q S CO j/\N.outputs=[]
   refine da (n:=S.length) (h1:=h) St2
    (by simp only[aB,aU,cO,aw,aA,oB,dc ho,aQ]) (bu (nat_lit 12428367080880197057) tt hv1 ‹_›) ⟨⟨none,none,none,none,none,rfl⟩,N,s,hp,ho,bi,hout⟩ ?_ ?_
   ·clear s hp ho bi hout;intro j m h hj z5;refine am z5 fun z160 z175=>?_;clear z5;refine eT z160 fun x11 x12 x13 x14 z235=>?_;clear z160;refine aq z235 fun x15 z291=>?_;clear z235;subst z291;refine kZ z175 fun N s hp ho bi hout=>?_;clear z175;have hQa:=bi.p1;have hQb:=bi.p2;have hCO:=bi.cl;refine⟨[DJ (.ref r),DJ (.int 10),DJ (.int 2),DJ (.ref kd),DJ (.ref (L+1)),DJ (.ref pl),DJ (.ref oa),x7,x8,x9,x10,DJ (.int j),x12,x13,x14,x15],rfl,?_⟩;refine kr (s.pick K (lim:=2) (z:=2) (m:=[DJ (.ref r),DJ (.int 10),DJ (.int 2),DJ (.ref kd),DJ (.ref (L+1)),DJ (.ref pl),DJ (.ref oa),x7,x8,x9,x10,DJ (.int j),x12,x13,x14,x15]) (c:=[]) (es:=[(.loc 0),(.const (.int 2))]) rfl (by decide) (by decide) rfl) fun v3 h7 c1 c2 c3 c4 c5 uu=>?_;refine ac (m1:=[DJ (.ref r),DJ (.int 10),DJ (.int 2),DJ (.ref kd),DJ (.ref (L+1)),DJ (.ref pl),DJ (.ref oa),x7,x8,x9,x10,DJ (.int j),DJ (.int v3),x13,x14,x15]) c1 rfl ?_;refine kr (c3.pick K (lim:=2) (z:=2) (m:=[DJ (.ref r),DJ (.int 10),DJ (.int 2),DJ (.ref kd),DJ (.ref (L+1)),DJ (.ref pl),DJ (.ref oa),x7,x8,x9,x10,DJ (.int j),DJ (.int v3),x13,x14,x15]) (c:=[]) (es:=[(.loc 0),(.const (.int 2))]) rfl (by decide) (by decide) rfl) fun v4 h8 d1 d2 d3 d4 d5 uu=>?_;refine ac (m1:=[DJ (.ref r),DJ (.int 10),DJ (.int 2),DJ (.ref kd),DJ (.ref (L+1)),DJ (.ref pl),DJ (.ref oa),x7,x8,x9,x10,DJ (.int j),DJ (.int v3),DJ (.int v4),x14,x15]) d1 rfl ?_;have fp8:=d4 _ _ a4 (c4 _ _ a4 hp);have fo8:=d4 _ _ hoa (c4 _ _ hoa ho);refine qA (d3.choice K (z:=2) (m:=[DJ (.ref r),DJ (.int 10),DJ (.int 2),DJ (.ref kd),DJ (.ref (L+1)),DJ (.ref pl),DJ (.ref oa),x7,x8,x9,x10,DJ (.int j),DJ (.int v3),DJ (.int v4),x14,x15]) (c:=[]) (es:=[(.loc 0),(.const (.int 3))]) (es2:=[(.loc 0),(.loc 5)]) fp8 a4 (dm (nat_lit 344182817422) tt hQa) (bu (nat_lit 407252732443658270632385) tt hQb hCO) (fun h=>rfl) (fun h=>rfl)) fun y h9 f1 f2 f3 f4 f5=>?_;refine ac (m1:=[DJ (.ref r),DJ (.int 10),DJ (.int 2),DJ (.ref kd),DJ (.ref (L+1)),DJ (.ref pl),DJ (.ref oa),x7,x8,x9,x10,DJ (.int j),DJ (.int v3),DJ (.int v4),DJ (.int y),x15]) f1 rfl ?_;have fp9:=f4 _ _ a4 fp8;have fo9:=f4 _ _ hoa fo8;refine qA (f3.near K (m:=[DJ (.ref r),DJ (.int 10),DJ (.int 2),DJ (.ref kd),DJ (.ref (L+1)),DJ (.ref pl),DJ (.ref oa),x7,x8,x9,x10,DJ (.int j),DJ (.int v3),DJ (.int v4),DJ (.int y),x15]) (c:=[]) (es:=[(.loc 0),(.loc 5)]) fp9 a4 (dm (nat_lit 344182817422) tt hQa) (bu (nat_lit 407252732443658270632385) tt hQb hCO) rfl) fun z h10 g1 g2 g3 g4 g5=>?_;have fp10:=g4 _ _ a4 fp9;have fo10:=g4 _ _ hoa fo9;have s10:=g3.push (T:=[.list (aa [y,z])]);have gl:(h10++[AO.list (aa [y,z])])[h10.length]? =DJ (.list (aa [y,z])):=au;have hl10:=g3.len;have fp10':=Fx.push (L:=L) (T:=[AO.list (aa [y,z])]) _ _ a4 fp10;have fo10':=Fx.push (L:=L) (T:=[AO.list (aa [y,z])]) _ _ hoa fo10;refine vF (s10.comp (cl:=cl) (w:=2) (h:=h10++[.list (aa [y,z])]) (m:=[DJ (.ref r),DJ (.int 10),DJ (.int 2),DJ (.ref kd),DJ (.ref (L+1)),DJ (.ref pl),DJ (.ref oa),x7,x8,x9,x10,DJ (.int j),DJ (.int v3),DJ (.int v4),DJ (.int y),x15]) (it:= .const (.int 2)) (e:= .ite (.cmp .eq (.call 40 [(.free 0),(.const (.int 3))]) (.const (.int 2))) (.call 42 [(.free 0),(.free 5)]) (.const (.int 0))) (Q:=Q) (R:=fun x=>x∈Q\/x=0) Fx.refl (DV _) (by decide) rfl fp10' a4 (fun j h3 s3 g3=>s3.choice K (z:=0) g3 a4 (dm (nat_lit 344182817422) tt hQa) (bu (nat_lit 407252732443658270632385) tt hQb hCO) (fun h=>rfl) (fun h=>rfl))) fun a xs h11 i1 i2 i3 i4 i5 i6 i7 i8=>?_;have gl11:=i5 _ _ hl10 gl;have had:=mt gl11 i6 (by refine yF i2 ?_;simp);have s11:=i4.push (T:=[.list (aa ([y,z]++xs))]);have gk:(h11++[AO.list (aa ([y,z]++xs))])[h11.length]? =DJ (.list (aa ([y,z]++xs))):=au;have fo11:=Fx.push (L:=L) (T:=[AO.list (aa ([y,z]++xs))]) _ _ hoa (i5 _ _ hoa fo10');have fp11:=Fx.push (L:=L) (T:=[AO.list (aa ([y,z]++xs))]) _ _ a4 (i5 _ _ a4 fp10');have ll11:=i4.len;refine ac (v:= .ref h11.length) (h1:=h11++[.list (aa ([y,z]++xs))]) (m1:=[DJ (.ref r),DJ (.int 10),DJ (.int 2),DJ (.ref kd),DJ (.ref (L+1)),DJ (.ref pl),DJ (.ref oa),x7,x8,x9,x10,DJ (.int j),DJ (.int v3),DJ (.int v4),DJ (.int y),DJ (.ref h11.length)]) (iZ (lw (vs:=[.int y,.int z]) (aL rfl (aL g1 dk))) i1 had) rfl ?_;have hins:∀ x∈[y,z]++xs,x∈bq N++S++CO:=by
     have h0:(0:Int)∈bq N++S++CO:=by unfold bq;simp
     have h2:(2:Int)∈bq N++S++CO:=by have:=bi.two;simp[this]
     intro x hx;simp only[dS,dR,ER]at hx;rcases hx with rfl | rfl | hx
     ·rcases f2 with f2 | rfl
      ·exact bi.ps _ f2
      ·exact h2
     ·exact bi.ps _ g2
     ·rcases i3 x hx with q | rfl
      ·exact bi.ps _ q
      ·exact h0
    have hil:([y,z]++xs).length=4:=by simp[i2]
    generalize [y,z]++xs=ins at *;generalize hah:h11.length=ah at *;generalize h11++[AO.list (aa ins)]=h12 at *;refine kr (s11.pick K (lim:=4) (z:=4) (m:=[DJ (.ref r),DJ (.int 10),DJ (.int 2),DJ (.ref kd),DJ (.ref (L+1)),DJ (.ref pl),DJ (.ref oa),x7,x8,x9,x10,DJ (.int j),DJ (.int v3),DJ (.int v4),DJ (.int y),DJ (.ref ah)]) (c:=[]) (es:=[(.loc 0),(.const (.int 4))]) rfl (by decide) (by decide) rfl) fun v5 h13 k1 k2 k3 k4 k5 uu=>?_;have hSj:S[j]? =DJ S[j]:=gE hj;generalize S[j]=o at hSj;have gk2:=k4 _ _ ll11 gk;have fo13:=k4 _ _ hoa fo11;have fp13:=k4 _ _ a4 fp11;have hcl:N.cells.length<=1000:=by
     have:N.cells.length=(outs N).length:=(DR _).symm;refine yF this ?_;refine yF bi.ou ?_;refine yF DU ?_;refine yF EG ?_;exact kt (nat_lit 437284301085295267910083249793472) tt (EE _ _) hv1 ‹_› hCO
    have hstr:fy (j:Nat)=fy ((j:Nat):Int):=rfl;have hsl:=oj j;have hev:∀ cl:aR,aC cl (.bin .add (.const (.str [113])) (.bi .str [(.loc 11)])) [DJ (.ref r),DJ (.int 10),DJ (.int 2),DJ (.ref kd),DJ (.ref (L+1)),DJ (.ref pl),DJ (.ref oa),x7,x8,x9,x10,DJ (.int j),DJ (.int v3),DJ (.int v4),DJ (.int y),DJ (.ref ah)] [] h13=DJ (.str (qn j),h13):=fun cl=>
     iZ (x:= .str [113]) (y:= .str (fy j)) (h1:=h13) (h2:=h13) rfl (by simp only[aB,aU,cO,aw,aA,oB,xA (h:=h13) (t:=j) (bS (nat_lit 435068116691243205250498) tt hj hv1 ‹_›)]) (by (refine DK (uY (by simp;with_unfolding_all exact dm (nat_lit 12428367343424720320) tt hsl)) ?_);rfl)
    refine cg (c:=decide ((v5:Int)=3)) (h1:=h13) (j0 (fK (y:= .int 3) (h2:=h13) k1 rfl (by simp only[bt,aD]))) ?_ ?_
    ·intro _;refine aM (uZ (cl:=cl) (m:=[DJ (.ref r),DJ (.int 10),DJ (.int 2),DJ (.ref kd),DJ (.ref (L+1)),DJ (.ref pl),DJ (.ref oa),x7,x8,x9,x10,DJ (.int j),DJ (.int v3),DJ (.int v4),DJ (.int y),DJ (.ref ah)]) (k:=dL) (pe:= .tup [(.bin .add (.const (.str [113])) (.bi .str [(.loc 11)])),(.loc 13)]) (p:= .tup [.str (qn j),.int v4]) k3 K gk2 fo13 hcl hSj (fun h=>rfl) (fun h=>rfl) (fun h=>by simp only[B9,Ca]) (fun h=>by simp only[B9,Ca]) (ng (aL (hev _) (aL rfl dk)))) fun h14 u1 u2 u3=>?_;exact cZ u1 (bz ⟨by simp,⟨_,_,_,_,_,rfl⟩,_,u2,u3 _ _ a4 fp13,u3 _ _ hoa fo13,bi.state (by refine yF hil ?_;exact lp.latch v4 (qn j)) rfl hins hSj,hout⟩)
    ·intro _;refine aM (uZ (cl:=cl) (m:=[DJ (.ref r),DJ (.int 10),DJ (.int 2),DJ (.ref kd),DJ (.ref (L+1)),DJ (.ref pl),DJ (.ref oa),x7,x8,x9,x10,DJ (.int j),DJ (.int v3),DJ (.int v4),DJ (.int y),DJ (.ref ah)]) (k:=ft) (pe:= .tup [(.loc 12),(.bin .add (.const (.str [113])) (.bi .str [(.loc 11)])),(.loc 13)]) (p:= .tup [.int v3,.str (qn j),.int v4]) k3 K gk2 fo13 hcl hSj (fun h=>rfl) (fun h=>rfl) (fun h=>by simp only[B9,Ca]) (fun h=>by simp only[B9,Ca]) (ng (aL rfl (aL (hev _) (aL rfl dk))))) fun h14 u1 u2 u3=>?_;exact cZ u1 (bz ⟨by simp,⟨_,_,_,_,_,rfl⟩,_,u2,u3 _ _ a4 fp13,u3 _ _ hoa fo13,bi.state (by refine yF hil ?_;exact lp.flop v3 v4 (qn j)) rfl hins hSj,hout⟩)
   ·clear s hp ho bi hout;intro m h z3;refine am z3 fun z100 z115=>?_;clear z3;refine eT z100 fun x11 x12 x13 x14 z175=>?_;clear z100;refine aq z175 fun x15 z231=>?_;clear z175;subst z231;refine kZ z115 fun N s hp ho bi hout=>?_;clear z115;have hQa:=bi.p1;have hQb:=bi.p2;have hCO:=bi.cl;refine kr (s.pick K (lim:=3) (z:=3) (m:=[DJ (.ref r),DJ (.int 10),DJ (.int 2),DJ (.ref kd),DJ (.ref (L+1)),DJ (.ref pl),DJ (.ref oa),x7,x8,x9,x10,x11,x12,x13,x14,x15]) (c:=[]) (es:=[(.loc 0),(.const (.int 3))]) rfl (by decide) (by decide) rfl) fun v3 h7 c1 c2 c3 c4 c5 uu=>?_;obtain⟨w,hw⟩:∃ w,w=1+v3:=⟨_,rfl⟩;refine vF (c3.comp (cl:=cl) (w:=w) (h:=h) (m:=[DJ (.ref r),DJ (.int 10),DJ (.int 2),DJ (.ref kd),DJ (.ref (L+1)),DJ (.ref pl),DJ (.ref oa),x7,x8,x9,x10,x11,x12,x13,x14,x15]) (it:= .bin .add (.const (.int 1)) (.call 40 [(.loc 0),(.const (.int 3))])) (e:= .call 42 [(.free 0),(.free 5)]) (Q:=Q) (R:=fun x=>x∈Q) c4 (bu (nat_lit 336606209) tt c5) (bu (nat_lit 407252732514019498642881) tt hw c2) (iZ (x:= .int 1) (y:= .int v3) (h1:=h) (h2:=h7) rfl c1 (by simp only[ec,tO,oM,hw];rfl)) (c4 _ _ a4 hp) a4 (fun j h3 s3 g3=>s3.near K g3 a4 (dm (nat_lit 344182817422) tt hQa) (bu (nat_lit 407252732443658270632385) tt hQb hCO) rfl)) fun a xs h8 d1 d2 d3 d4 d5 d6 d7 d8=>?_;refine fu (K.outp (nm:=[121]) d4.net d6 d4.len (by refine yF hout ?_;simp)) fun h9 e1 e2 e3 e4=>?_;refine am (d4.kx e3 e2) fun f1 f2=>?_;have b2:=bi.out (p:=([121],xs)) d3 (by simp only;exact bS (nat_lit 12823600055750469881286082) tt d2 hw c2) (by refine yF hout ?_;simp);have hout2:({ N with outputs:=N.outputs++[([121],xs)] }:NL).outputs.length=1:=by simp[hout]
    generalize ({ N with outputs:=N.outputs++[([121],xs)] }:NL)=N2 at *;refine cZ (h1:=h9) (v:= .none) (dA (a:=L+1) (h1:=h) (vs:=[.str [121],.ref a]) (h2:=h8) rfl s.net.okI (aL rfl (aL d1 dk)) e1) ?_;have fp9:=f2 _ _ a4 (d5 _ _ a4 hp);refine qA (f1.near K (m:=[DJ (.ref r),DJ (.int 10),DJ (.int 2),DJ (.ref kd),DJ (.ref (L+1)),DJ (.ref pl),DJ (.ref oa),x7,x8,x9,x10,x11,x12,x13,x14,x15]) (c:=[]) (es:=[(.loc 0),(.loc 5)]) fp9 a4 (dm (nat_lit 344182817422) tt hQa) (bu (nat_lit 407252732443658270632385) tt hQb hCO) rfl) fun z h10 g1 g2 g3 g4 g5=>?_;have s10:=g3.push (T:=[.list (aa [z])]);have gl:(h10++[AO.list (aa [z])])[h10.length]? =DJ (.list (aa [z])):=au;refine fu (K.outp (nm:=[122]) s10.net gl s10.len (dm (nat_lit 379283663373760) tt hout2)) fun h11 i1 i2 i3 i4=>?_;refine am (s10.kx i3 i2) fun j1 j2=>?_;have b3:=b2.out (p:=([122],[z])) (by simp[g2]) (by simp) (dm (nat_lit 397754648000) tt hout2);refine cZ (h1:=h11) (v:= .none) (dA (a:=L+1) (h1:=h9) (vs:=[.str [122],.ref h10.length]) (h2:=h10++[.list (aa [z])]) rfl f1.net.okI (aL rfl (aL (lw (aL g1 dk)) dk)) i1) ?_;exact bK (v:= .ref (L+1)) (h1:=h11) rfl (Ed ⟨_,rfl,L,_,rfl,j1.net,b3.good,j1.fr,G8 hL⟩)
 exact⟨L,h',N,e,r1,r2,r3,r4⟩
theorem j3{rng:Bool}(St:Nat->aZ->Hp->List AV->Prop)(e1:aC cl it m c h=DJ (x,h1))(e2:bZ h1 rng x=DJ (vs,gd))(s0:St 0 (D0 k none) h1 [])
  (hg:∀ j c h acc,St j c h acc->av h gd=true) (hs:∀ j v c h acc,vs[j]? =DJ v->St j c h acc->∃ c1 c2 h2 acc2,bp c t v=DJ c1/\m8 cl g m c1 h acc=DJ (c2,h2,acc2)/\St (j+1) c2 h2 acc2):
  ∃ c' h' acc,aC cl (.comp k t rng it g) m c h=DJ (.ref h'.length,h'++[.list acc])/\St vs.length c' h' acc:=by
 obtain⟨⟨c',h',acc⟩,e,s⟩:=gK (hp:=fun (s:aZ × Hp × List AV)=>s.2.1) (gd:=gd) (f:=fun (s:aZ × Hp × List AV) v=>do
   let c' <- bp s.1 t v
   m8 cl g m c' s.2.1 s.2.2) (fun j s=>St j s.1 s.2.1 s.2.2) (vs:=vs) (x:=(D0 k none,h1,[])) (fun j s q=>hg j _ _ _ q)
  (fun j v s ep st=>by
   refine wN (hs j v _ _ _ ep st) fun c1 c2 h2 acc2 b1 b2 b3=>?_;exact⟨(c2,h2,acc2),by simp only[b1,ED,oB,b2],b3⟩) s0
 exact⟨c',h',acc,js e1 e2 e,s⟩
theorem u4{rng:Bool}(St:Nat->aZ->Hp->List AV->Prop)(e1:aC cl it m c h=DJ (x,h1))(e2:bZ h1 rng x=DJ (vs,gd))(s0:St 0 c h1 acc)
  (hg:∀ j c h acc,St j c h acc->av h gd=true) (hs:∀ j v c h acc,vs[j]? =DJ v->St j c h acc->∃ c1 c2 h2 acc2,bp c t v=DJ c1/\m8 cl g m c1 h acc=DJ (c2,h2,acc2)/\St (j+1) c2 h2 acc2):
  ∃ c' h' acc',m8 cl (.for_ t rng it g) m c h acc=DJ (c',h',acc')/\St vs.length c' h' acc':=by
 obtain⟨⟨c',h',acc'⟩,e,s⟩:=gK (hp:=fun (s:aZ × Hp × List AV)=>s.2.1) (gd:=gd) (f:=fun (s:aZ × Hp × List AV) v=>do
   let c' <- bp s.1 t v
   m8 cl g m c' s.2.1 s.2.2) (fun j s=>St j s.1 s.2.1 s.2.2) (vs:=vs) (x:=(c,h1,acc)) (fun j s q=>hg j _ _ _ q)
  (fun j v s ep st=>by
   refine wN (hs j v _ _ _ ep st) fun c1 c2 h2 acc2 b1 b2 b3=>?_;exact⟨(c2,h2,acc2),by simp only[b1,ED,oB,b2],b3⟩) s0
 refine⟨c',h',acc',?_,s⟩;exact bs e1 (bs e2 e)
theorem j4(e1:aC cl e m c h=DJ (v,h1))(hl:acc.length<=1000):m8 cl (.elt e) m c h acc=DJ (c,h1,acc++[v]):=by
 exact bs e1 (if_pos (aV hl))
theorem xC{b:Bool}(e1:aC cl e m c h=DJ (v,h1))(e2:truthy h1 v=DJ b)(e3:(if b=true then m8 cl g m c h1 acc else DJ (c,h1,acc))=r):m8 cl (.if_ e g) m c h acc=r:=by
 exact bs e1 (bs e2 e3)
noncomputable def eh(l:List aj):List aj:=l.filter fun c=>bh c.kind
theorem sK(k:Nm):decide (k∈[ft,dL])=bh k:=by
 unfold bh;by_cases h1:k=ft<;>by_cases h2:k=dL<;>simp[h1,h2]
theorem lA{W n L:Nat}{N:NL}{H:Hp}(q:aI H L N)(hs:N.cells.length<=1000):∃ a H',ad P W (n+1) 44 [.ref (L+1)] H=DJ (.ref a,H')/\ai H H'/\H.length<=a/\H'[a]? =DJ (.list ((eh N.cells).map aj.v)):=by
 have at0:=q.attr;generalize hcl:ad P W n=cl;have hc:=gc (cl:=cl) (m:=[DJ (.ref (L+1))]) (c:=[]) (h:=H) (h1:=H) (rng:=false) (it:= .attr (.loc 0) fZ) (t:= .cmp .in_ (.sub (.loc 0) (.const (.int 0))) (.list [(.const (.str ft)),(.const (.str dL))])) (x:= .ref (L+4)) N.cells aj.v (gd:=DJ (L+4,.list (N.cells.map aj.v))) (fun c=>bh c.kind) (by simp only[aB,cV,oB,at0]) (aF _ _ _ q.cel) hs (fun T=>by unfold av;simp[fN T q.cel]) (fun a ha T=>by
  refine⟨T++[.list ([ft,dL].map .str)],.bool (bh a.kind),?_,rfl⟩;refine yB (D1 _ _ _) ?_;refine yB (sK _) ?_;exact q8 (by unfold aj.v;simp only[bd,qG,bD,cQ,iW,oB]) rfl)
 refine aq hc ?_;clear hc;intro T hc;refine⟨(H++T).length,_,bE (fn:=iV) rfl rfl ⟨[DJ (.ref (L+1))],?_⟩,(ai.push _ _).trans (ai.push _ _),by simp,bO _ _⟩;refine yF hcl ?_;unfold iV;simp only[mN,mC,dR,dS,DY,Nat.reduceSub,t5,xn,xp];exact bM (cX hc)
theorem zd{W n:Nat}{l:Nat}(ok:aT k l p):∃ T,ad P W (n+1) 41 [.str k,p] H=DJ (.int (eJ k p:Nat),H++T):=by
 obtain⟨v,H',e,rfl,T,rfl⟩:∃ v H',ad P W (n+1) 41 [.str k,p] H=DJ (v,H')/\v= .int (eJ k p:Nat)/\∃ T,H'=H++T:=by
  let Q0:AV->Hp->Prop:=fun v H'=>v= .int (eJ k p:Nat)/\∃ T,H'=H++T
  refine bQ (Q:=Q0) (fn:=jp) rfl rfl ?_;unfold jp;generalize ad P W n=cl;simp only[mN,mC,dR,dS,DY,Nat.reduceSub,Ar,Bg,C5,C6,BB,xl,xm];refine cg (c:=decide (k=df)) (h1:=H) (by simp only[bd,aB,aK,cW,cq,bt,bG,oB]) ?_ ?_
  ·intro e;have e:=of_decide_eq_true e;obtain⟨t,rfl⟩:∃ t:Nat,p= .int t:=by
    generalize hK:k=K at ok;cases ok with
    | lut l t a b=>exact ⟨t,rfl⟩
    | gate k hk=>subst hK;subst e;exact absurd hk (by decide)
    | _=>rw[hK]at e;exact absurd e (by decide)
   refine bK (v:= .int t) (h1:=H) rfl ⟨fun e=>by simp at e,fun _=>Ed ⟨_,rfl,?_,[],by simp⟩⟩;unfold eJ;simp
  ·intro e1;have e1:=of_decide_eq_false e1;refine cS ?_;refine cg (c:=decide (k=bU)) (h1:=H) (by simp only[bd,aB,aK,cW,cq,bt,bG,oB]) ?_ ?_
   ·intro e;have e:=of_decide_eq_true e;obtain⟨t,nm,rfl⟩:∃ (t:Nat) (nm:Nm),p= .tup [.str nm,.int t]:=by
     generalize hK:k=K at ok;cases ok with
     | cell l t nm a b=>exact ⟨t,nm,rfl⟩
     | gate k hk=>subst hK;subst e;exact absurd hk (by decide)
     | _=>rw[hK]at e;exact absurd e (by decide)
    refine bK (v:= .int t) (h1:=H) rfl ⟨fun e=>by simp at e,fun _=>Ed ⟨_,rfl,?_,[],by simp⟩⟩;unfold eJ;simp
   ·intro e2;have e2:=of_decide_eq_false e2;refine cS ?_;let DD:List (AV × AV):=[(.str aP,.int 2),(.str bC,.int 1),(.str eH,.int 8),(.str kI,.int 14),(.str fj,.int 6),(.str fq,.int 7),(.str jj,.int 1),(.str gM,.int 9),(.str ef,.int 228)]
    have hd:br (bg DD) (.str k)=DJ (.int (eJ k p:Nat)):=by
     cases ok with
     | lut l t a b=>exact absurd rfl e1
     | cell l t nm a b=>exact absurd rfl e2
     | mux=>rfl
     | buf=>rfl
     | not=>rfl
     | gate k hk=>
      unfold nW at hk;simp only[ER,EW,or_false]at hk;rcases hk with rfl | rfl | rfl | rfl | rfl | rfl<;>rfl
    have hg:((H++[AO.dict (bg DD)])[H.length]? :Option AO)=DJ (.dict (bg DD)):=au;have hl:aC cl (.loc 0) [DJ (.str k),DJ p] [] (H++[.dict (bg DD)])=DJ (.str k,H++[.dict (bg DD)]):=rfl;have hdc:aC cl (.dict [(.const (.str aP)),(.const (.int 2)),(.const (.str bC)),(.const (.int 1)),(.const (.str eH)),(.const (.int 8)),(.const (.str kI)),(.const (.int 14)),(.const (.str fj)),(.const (.int 6)),(.const (.str fq)),(.const (.int 7)),(.const (.str jj)),(.const (.int 1)),(.const (.str gM)),(.const (.int 9)),(.const (.str ef)),(.const (.int 228))]) [DJ (.str k),DJ p] [] H=DJ (.ref H.length,H++[.dict (bg DD)]):=by
     simp only[bd,vI,aw,aA,oB,oM,if_true,fz,vN,if_true];rfl
    have hsv:fS (H++[.dict (bg DD)]) (.ref H.length) (.str k)=DJ (.int (eJ k p:Nat)):=by simp only[kG,hg,vN,if_true,hd]
    exact bK (v:= .int (eJ k p:Nat)) (h1:=H++[.dict (bg DD)]) (jZ hdc hl hsv) (Ed ⟨_,rfl,rfl,_,rfl⟩)
 exact⟨T,e⟩
noncomputable def rf(t:Nat):Nat->Nat
 | 0=>0
 | n+1=>rf t n+(if n / 2 ^ t % 2=1 then 2 ^ n else 0)
theorem xD:rf t (n+1)=rf t n+(if n / 2 ^ t % 2=1 then 2 ^ n else 0):=rfl
theorem ze(t n:Nat):rf t n<2 ^ n:=by
 induction n with
 | zero=>exact Nat.zero_lt_one
 | succ n ih=>rewrite[xD];dsimp only[H8];split<;>first | exact Bo ih | exact Bp ih
theorem lB{l:Nat}(ok:lp k l p):fS h p (.int (-2))=DJ (.str (cr p)):=by cases ok<;>rfl
noncomputable def de(N:NL):List AV:=(N.inputs.flatMap fun p=>(Ec p.2.length).map fun (i:Nat)=>AV.tup [.str p.1,.int i])++(bf N.cells).map .str
theorem dO(l:List aj):bf l=(eh l).map fun c=>cr c.param:=rfl
theorem om{a:Nat}(h:a<1024):bA .pow 2 (a:Int)=DJ ((2 ^ a:Nat):Int):=by
 have h1:(a:Int)<qC:=by unfold qC;exact G9.mpr (by first | assumption | decide)
 unfold bA;simp only;refine DK (if_pos ⟨trivial,FL _,h1⟩) ?_;dsimp only[F9];simp
theorem xE(xs:List Int)(x:Int):(xs++[x]).sum=xs.sum+x:=by simp
theorem hV(xs:List Int):gA (aa xs)=DJ xs:=by
 induction xs with
 | nil=>rfl
 | cons a l ih=>
  show (gA (aa l)).map (a:: ·)=_;refine yF ih ?_;rfl
noncomputable def ji(h:Hp)(r:Nat)(pat:AV->Nat)(ks:List AV)(rows:Nat):Prop:=∃ es,h[r]? =DJ (.dict es)/\∀ k∈ks,bv k=true/\br es k=DJ (.int (pat k:Nat))/\pat k<2 ^ rows
theorem ji.keep{pat:AV->Nat}(p:ji h r pat ks rows)(k:ai h h'):ji h' r pat ks rows:=by
 refine af p fun es a b=>?_;clear p;exact⟨es,k _ _ a,b⟩
theorem ji.sub{r rows:Nat}{pat:AV->Nat}(p:ji h r pat ks rows)(hk:k∈ks):fS h (.ref r) k=DJ (.int (pat k:Nat)):=by
 refine af p fun es a b=>?_;clear p;refine bY (b k hk) fun b1 b2 uu=>?_;simp only[kG,a,b1,if_true,b2]
theorem Ay(a:Nat):bA .mod (a:Int) 2=DJ ((a % 2:Nat):Int):=by
 unfold bA;simp only;refine DK (if_pos (by decide)) ?_;simp
theorem BD(a:Nat):decide ((a:Int)=1)=decide (a=1):=by rewrite[decide_eq_decide];exact FP
theorem xF{a b:Nat}(e1:aC cl e m c h=DJ (.int a,h))(e2:aC cl f m c h=DJ (.int b,h))(hb:b<31):aC cl (.cmp .eq (.bin .mod (.bin .fdiv e (.bin .pow (.const (.int 2)) f)) (.const (.int 2))) (.const (.int 1))) m c h=DJ (.bool (decide (a / 2 ^ b % 2=1)),h):=by
 have p1:=om (a:=b) (Ea hb (by decide));have p2:2 ^ b<4294967296:=Ea (Nat.pow_lt_pow_right (by decide) hb) (by decide);have p3:=tU (a:=a) (b:=2 ^ b) (IF (by decide)) p2;simp only[bd,jQ,aK,bt,ec,aD,oB,oM,e1,e2,oB,oM,p1,p3,Ay,BD]
noncomputable def f8(ps:List jv):List AV:=ps.flatMap fun p=>(Ec p.2.length).map fun (i:Nat)=>AV.tup [.str p.1,.int i]
theorem mv(ps:List jv):(f8 ps).length=(ar ps).length:=by
 induction ps with
 | nil=>rfl
 | cons p l ih=>
  unfold f8 ar at *;refine yF Fo ?_;refine yF Fo ?_;refine DK DU ?_;refine yF DU ?_;refine yF ih ?_;simp
theorem fD(N:NL):de N=f8 N.inputs++(bf N.cells).map .str:=rfl
theorem uf(N:NL):(de N).length=(ar N.inputs).length+(bf N.cells).length:=by (dsimp only[fD];refine DK DU ?_;refine yF (mv _) ?_;refine yF (DR _) ?_;rfl)
theorem uh(N:NL):∀ k∈de N,bv k=true:=by
 intro k hk;rw[fD,DZ]at hk;rcases hk with hk | hk
 ·unfold f8 at hk;rw[G3]at hk;refine af hk ?_;clear hk;intro p uu hk;rw[Es]at hk;refine af hk fun i uu z3=>?_;clear hk;subst z3;rfl
 ·rw[Es]at hk;refine af hk fun s uu z3=>?_;clear hk;subst z3;rfl
theorem ui(q:aI h L N)(hs:gP N)(h6:(ar N.inputs).length<=6)(l0:∀ h,ek m 0 h=DJ (.ref (L+1),h)):aC cl (.comp 3 (.many [0,1]) false (.attr (.loc 0) fJ) (.for_ (.one 2) true (.bi .len [(.loc 1)]) (.elt (.tup [(.loc 0),(.loc 2)])))) m [] h=DJ (.ref h.length,h++[.list (f8 N.inputs)]):=by
 refine af q.inp fun vi i1 i2=>?_;have at0:=q.attr;refine dH (j3 (cl:=cl) (k:=3) (t:= .many [0,1]) (rng:=false) (it:= .attr (.loc 0) fJ) (g:= .for_ (.one 2) true (.bi .len [(.loc 1)]) (.elt (.tup [(.loc 0),(.loc 2)]))) (m:=m) (c:=[]) (h:=h) (h1:=h) (x:= .ref (L+2)) (vs:=vi) (gd:=DJ (L+2,.list vi))
  (fun j c h' acc=>(∃ x y z,c=[x,y,z])/\h'=h/\acc=f8 (N.inputs.take j)) (by simp only[cV,oB,bW,bx,l0,oB,oM,at0]) (aF _ _ _ i1) ⟨⟨none,none,none,rfl⟩,rfl,rfl⟩ (fun j c h' acc s=>by refine yF s.2.1 ?_;unfold av;simp[i1])
  (fun j v c h' acc hv s=>by
   refine bY s fun z1 z2 z3=>?_;clear s;refine qB z1 fun x y z z64=>?_;clear z1;subst z64;subst z2;subst z3;have hj:=(gS.mp hv).1;rw[i2.1]at hj;refine aM (i2.2 j _ (gE hj)) fun a b1 b2 b3=>?_;have ht:N.inputs.take (j+1)=N.inputs.take j++[N.inputs[j]]:=by (refine DK E1 ?_;refine yF (gE hj) ?_);rfl
   have hpl:=hs.pi _ (Ey hj);have hil:=hs.ci;generalize N.inputs[j]=p at *;rw[hv]at b2;revert hv;refine jR b2 ?_;intro hv;have hkl:(f8 (N.inputs.take j)).length<=400:=by
    refine yF (mv _) ?_;have:=gV (l:=N.inputs.take j) (fun p hp=>hs.pi p (FC hp));rw[EG]at this;exact bS (nat_lit 16129433153597313766486657892319186778300908877605065262) tt this (ES 20 (EE _ _)) (ES 20 hil)
   refine dH (u4 (cl:=cl) (t:= .one 2) (rng:=true) (it:= .bi .len [(.loc 1)]) (g:= .elt (.tup [(.loc 0),(.loc 2)])) (m:=m) (c:=[DJ (.str p.1),DJ (.ref a),z]) (h:=h') (h1:=h') (acc:=f8 (N.inputs.take j)) (x:= .int (p.2.length:Nat)) (gd:=none)
    (fun i c h2 acc=>(∃ z,c=[DJ (.str p.1),DJ (.ref a),z])/\h2=h'/\acc=f8 (N.inputs.take j)++(Ec i).map fun (i:Nat)=>AV.tup [.str p.1,.int i]) (by simp only[C2,cO,aw,aA,oB,dc b3,aQ]) (dK _ _ (aV (DO hpl (by decide)))) ⟨⟨z,rfl⟩,rfl,by simp⟩ (fun _ _ _ _ _=>rfl)
    (fun i v c h2 acc hv s=>by
     refine bY s fun z1 z2 z3=>?_;clear s;refine aq z1 fun z z62=>?_;clear z1;subst z62;subst z2;subst z3;have hi:i<p.2.length:=by have:=(gS.mp hv).1;simpa using this
     rw[DX,Ff hi]at hv;simp only[oM,D7]at hv;subst hv;exact⟨[DJ (.str p.1),DJ (.ref a),DJ (.int i)],_,_,_,rfl,j4 (v:= .tup [.str p.1,.int i]) (by simp only[qG,C3,cG,aw,aA,oB]<;>rfl) (by simp;exact bS (nat_lit 437284301085332159761142560638400) tt hi hpl hkl),⟨_,rfl⟩,rfl,by (refine yF Gr ?_;refine yF Ez ?_;refine DK (D1 _ _ _) ?_);rfl⟩)) fun c2 h2 acc2 e2 z5 hh hacc=>?_;refine aq z5 fun z' hz=>?_;clear z5
   refine⟨[DJ (.str p.1),DJ (.ref a),z],c2,h2,acc2,rfl,e2,⟨_,_,_,hz⟩,hh,?_⟩;refine DK hacc ?_;refine yF ht ?_;unfold f8;refine yF FR ?_;refine yF Fo ?_;refine yF G2 ?_;refine yF (EC _) ?_;simp)) fun c' h' acc e uu s2 s3=>?_
 rw[i2.1,Ef]at s3;refine DK e ?_;refine yF s2 ?_;refine yF s3 ?_;rfl
theorem mP{cl:aR}{it:E}{m:aZ}{h h1:Hp}{a:Nat}{l:List aj}(e:aC cl it m [] h=DJ (.ref a,h1))(ha:h1[a]? =DJ (.list (l.map aj.v)))(hl:l.length<=1000)(ok:∀ c∈l,lp c.kind c.ins.length c.param):aC cl (.comp 1 (.one 0) false it (.elt (.sub (.sub (.loc 0) (.const (.int 3))) (.neg (.const (.int 2)))))) m [] h=DJ (.ref h1.length,h1++[.list ((l.map fun c=>cr c.param).map .str)]):=by
 have:=eN (cl:=cl) (rng:=false) (it:=it) (e:= .sub (.sub (.loc 0) (.const (.int 3))) (.neg (.const (.int 2)))) (m:=m) (c:=[]) (h:=h) (h1:=h1) l aj.v (fun c=> .str (cr c.param)) e (aF _ _ _ ha) (by unfold av;simp[ha]) hl (fun c hc=>by
  have h2:=lB (h:=h1) (ok c hc);unfold aj.v;simp only[bd,qG,tN,bD,cQ,tP,oB,h2])
 refine DK this ?_;refine yF map_map ?_;rfl
theorem kM(g:cn N):∀ c∈eh N.cells,lp c.kind c.ins.length c.param:=fun c hc=>by
 unfold eh at hc;rw[E5]at hc;exact g.st c hc.1 hc.2
theorem lC(l:List aj):(eh l).length<=l.length:=EI _ _
theorem uj{n L:Nat}{N:NL}{H:Hp}(q:aI H L N)(g:cn N):∃ a rows pat H',ad P 1000 (n+2) 45 [.ref (L+1)] H=DJ (.tup [.ref a,.int (2 ^ rows - 1:Nat)],H')/\ai H H'/\ji H' a pat (de N) rows/\rows<=64:=by
 obtain⟨v,H',e,a,rows,pat,rfl,r1,r2,r3⟩:∃ v H',ad P 1000 (n+2) 45 [.ref (L+1)] H=DJ (v,H')/\∃ a rows pat,v= .tup [.ref a,.int (2 ^ rows - 1:Nat)]/\ai H H'/\ji H' a pat (de N) rows/\rows<=64:=by
  refine bQ (fn:=gI) rfl rfl ?_;unfold gI;have hst:=fun (H:Hp) (q:aI H L N)=>lA (W:=1000) (n:=n) q (by have:=g.small.cc;exact DO this (by decide));generalize ad P 1000 (n+1)=cl at *;simp only[mN,mC,dR,dS,DY,Ee,Nat.reduceSub,zS];have hbits:=g.bits;have hkl:=uf N;have hkk:=uh N;have hsl:=lC N.cells;have hcc:=g.small.cc;refine ac (v:= .ref H.length) (h1:=H++[.list (f8 N.inputs)]) (m1:=[DJ (.ref (L+1)),DJ (.ref H.length),none,none,none]) (ui q g.small (bu (nat_lit 376514372116512) tt hbits) (fun h=>rfl)) rfl ?_;have k0:ai H (H++[.list (f8 N.inputs)]):=ai.push _ _;have g0:(H++[AO.list (f8 N.inputs)])[H.length]? =DJ (.list (f8 N.inputs)):=au;generalize H++[AO.list (f8 N.inputs)]=h0 at *;refine cp (hst h0 (q.keep k0)) fun sa h1 b1 b2 b3 b4=>?_;have hc:=mP (cl:=cl) (it:= .call 44 [(.loc 0)]) (m:=[DJ (.ref (L+1)),DJ (.ref H.length),none,none,none]) (h:=h0) (aJ (vs:=[.ref (L+1)]) (h1:=h0) rfl b1) b4 (bu (nat_lit 397707746519445816769) tt hsl hcc) (kM g);rw[<- dO]at hc;have g1:=ai.push h1 [.list ((bf N.cells).map .str)] _ _ (b2 _ _ g0);have g2:(h1++[AO.list ((bf N.cells).map .str)])[h1.length]? =DJ (.list ((bf N.cells).map .str)):=au;have hlt:=(gS.mp (b2 _ _ g0)).1;have k1:=(k0.trans b2).snoc [.list ((bf N.cells).map .str)];refine jX (x:= .ref H.length) (v:= .ref h1.length) (r:= .ref H.length) (h1:=h0) (h2:=h1++[.list ((bf N.cells).map .str)]) (h3:=(h1++[AO.list ((bf N.cells).map .str)]).set H.length (AO.list (de N))) (m1:=[DJ (.ref (L+1)),DJ (.ref H.length),none,none,none]) rfl hc (by
   exact oL g1 (oL g2 (if_pos ⟨rfl,D4 hlt,by (refine yF (mv _) ?_;refine yF (DR _) ?_);exact aV (DO hbits (by decide))⟩))) rfl ?_
  have k2:=k1.set (a:=H.length) (o:= .list (de N)) (DV _);have g3:((h1++[AO.list ((bf N.cells).map .str)]).set H.length (.list (de N)))[H.length]? =DJ (.list (de N)):=bH _ _ _ (gS.mp g1).1;generalize (h1++[AO.list ((bf N.cells).map .str)]).set H.length (AO.list (de N))=h2 at *;clear g1 g2 hc k1 b1 b2 b4 k0 g0 hst;generalize de N=ks at *;have hp0:=om (a:=ks.length) (bS (nat_lit 13922290415958234568794177) tt hkl hbits);have hrows:2 ^ ks.length<=64:=DO (GB (n:=2) (by decide) (show ks.length<=6 by exact bS (nat_lit 12633727641989430059073) tt hkl hbits)) (by decide);refine ac (v:= .int (2 ^ ks.length:Nat)) (h1:=h2) (m1:=[DJ (.ref (L+1)),DJ (.ref H.length),DJ (.int (2 ^ ks.length:Nat)),none,none]) (by simp only[bd,aB,aU,jQ,cO,aw,aA,ec,oB,oM,dc g3,hp0]) rfl ?_;generalize 2 ^ ks.length=rows at *;have hlt2:=(gS.mp g3).1;refine ac (v:= .ref h2.length) (h1:=h2++[.dict []]) (m1:=[DJ (.ref (L+1)),DJ (.ref H.length),DJ (.int rows),DJ (.ref h2.length),none]) rfl rfl ?_;have k3:=k2.snoc [.dict []];have g4:=ai.push h2 [.dict []] _ _ g3;have d4:(h2++[AO.dict []])[h2.length]? =DJ (.dict []):=au;generalize h2++[AO.dict []]=h3 at *;generalize h2.length=pd at *;let St1:Nat->aZ->Hp->Prop:=fun j m h=>(∃ x,m=[DJ (.ref (L+1)),DJ (.ref H.length),DJ (.int rows),DJ (.ref pd),x])/\ai H h/\h[H.length]? =DJ (.list ks)/\∃ es,h[pd]? =DJ (.dict es)/\es.length<=j/\∀ k∈ks.take j,∃ w:Nat,br es k=DJ (.int w)/\w<2 ^ rows
  refine da (n:=ks.length) (h1:=h3) St1
   (by simp only[aB,aU,cO,aw,aA,oB,dc g4]) (bS (nat_lit 13032087440449159026909249) tt hkl hbits) ⟨⟨none,rfl⟩,k3,g4,[],d4,by simp,by simp⟩ ?_ ?_
  ·intro j m h hj z5;refine eQ z5 fun z160 a1 a2 z175=>?_;clear z5;refine aq z160 fun x z221=>?_;clear z160;subst z221;refine aM z175 fun es a3 a4 a5=>?_;clear z175;refine⟨[DJ (.ref (L+1)),DJ (.ref H.length),DJ (.int rows),DJ (.ref pd),DJ (.int j)],rfl,?_⟩;refine dH (j3 (cl:=cl) (k:=1) (t:= .one 0) (rng:=true) (it:= .loc 2) (g:= .if_ (.cmp .eq (.bin .mod (.bin .fdiv (.loc 0) (.bin .pow (.const (.int 2)) (.free 4))) (.const (.int 2))) (.const (.int 1))) (.elt (.bin .pow (.const (.int 2)) (.loc 0)))) (m:=[DJ (.ref (L+1)),DJ (.ref H.length),DJ (.int rows),DJ (.ref pd),DJ (.int j)]) (c:=[]) (h:=h) (h1:=h) (x:= .int rows) (gd:=none)
    (fun i c h' acc=>(∃ x,c=[x])/\h'=h/\∃ xs,acc=aa xs/\xs.sum=((rf j i:Nat):Int)/\xs.length<=i) rfl (dK _ _ (aV (DO hrows (by decide)))) ⟨⟨none,rfl⟩,rfl,[],rfl,rfl,by simp⟩ (fun _ _ _ _ _=>rfl)
    (fun i v c h' acc hv s=>by
     refine bY s fun z1 z2 z16=>?_;clear s;refine aq z1 fun x z62=>?_;clear z1;subst z62;subst z2;refine aM z16 fun xs z72 s1 s2=>?_;clear z16;subst z72;have hi:i<rows:=by have:=(gS.mp hv).1;simpa using this
     rw[DX,Ff hi]at hv;simp only[oM,D7]at hv;subst hv;have hbt:=xF (cl:=cl) (e:= .loc 0) (f:= .free 4) (m:=[DJ (.ref (L+1)),DJ (.ref H.length),DJ (.int rows),DJ (.ref pd),DJ (.int j)]) (c:=[DJ (.int i)]) (h:=h') (a:=i) (b:=j) rfl rfl (kt (nat_lit 14837675896171512030195818594) tt hj hkl hbits);have hpi:=om (a:=i) (bu (nat_lit 424874585406011101633) tt hi hrows);by_cases hb:i / 2 ^ j % 2=1
     ·refine⟨[DJ (.int i)],_,_,_,rfl,xC hbt rfl (by refine yF (if_pos (by simp[hb])) ?_;exact j4 (v:= .int (2 ^ i:Nat)) (by simp only[bd,qG,jQ,ec,oB,oM,hpi]) (by refine yF (aQ _) ?_;exact bS (nat_lit 13032087437949215015719362) tt s2 hi hrows)),⟨_,rfl⟩,rfl,xs++[((2 ^ i:Nat):Int)],by unfold aa;simp,?_,by simp;exact s2⟩;refine DK (xE _ _) ?_;refine yF s1 ?_;dsimp only[xD];refine yF (if_pos hb) ?_;exact Kr _ _
     ·refine⟨[DJ (.int i)],_,_,_,rfl,xC hbt rfl (by (refine yF (if_neg (by simp[hb])) ?_;rfl)),⟨_,rfl⟩,rfl,xs,rfl,?_,Ha s2⟩;refine DK s1 ?_;dsimp only[xD];refine yF (if_neg hb) ?_;rfl)) fun c' h' acc e1 uu e3 z16=>?_;refine aM z16 fun xs z72 e4 e5=>?_;clear z16;subst z72
   subst e3;rw[DR,E8]at e4 e5;have hsum:pH (h'++[.list (aa xs)]) .sum [.ref h'.length]=DJ (.int (rf j rows:Nat),h'++[.list (aa xs)]):=by
    simp only[Bu,fm,bO,hV,oM,e4]
   have a1':=a1.snoc [.list (aa xs)];have a2':=ai.push h' [.list (aa xs)] _ _ a2;have a3':=ai.push h' [.list (aa xs)] _ _ a3;have hkj:ks[j]? =DJ ks[j]:=gE hj;have hkk2:=hkk _ (Ey hj);have htk:=bn hkj;generalize ks[j]=k at *;have hpd:H.length≠pd:=by intro e;rw[<- e,a2]at a3;exact nomatch a3
   refine bk (v:= .int (rf j rows:Nat)) (x:= .ref pd) (y:=k) (h1:=h'++[.list (aa xs)]) (h2:=h'++[.list (aa xs)]) (h3:=h'++[.list (aa xs)]) (h4:=(h'++[AO.list (aa xs)]).set pd (AO.dict (dz es k (.int (rf j rows:Nat))))) (Aw (aL e1 dk) hsum) rfl (jZ (x:= .ref H.length) (y:= .int j) (h1:=h'++[.list (aa xs)]) (h2:=h'++[.list (aa xs)]) rfl rfl (by refine yF (er a2') ?_;exact hkj)) (by
    simp only[sh,a3'];(refine yF (if_pos ⟨hkk2,Ek a4 (aV (by with_unfolding_all exact kt (nat_lit 427035441203614704696362999906) tt hj hkl hbits))⟩) ?_;rfl)) (aN ⟨by simp,⟨_,rfl⟩,?_,?_,_,bH _ _ _ (gS.mp a3').1,by have:=ju es k (.int (rf j rows:Nat));exact bS (nat_lit 12121169318278674262050) tt this a4,?_⟩)
   ·intro i o ho;by_cases hi:pd=i
    ·subst hi;have h1:=(gS.mp ho).1;lia
    ·refine yF (gN hi) ?_;exact a1' i o ho
   ·rewrite[gN (fun e=>hpd e.symm)];exact a2'
   ·intro k' hk';rw[htk,DZ,DT]at hk';rewrite[eI];by_cases hkk':k=k'
    ·refine yF (if_pos hkk') ?_;exact⟨_,rfl,ze _ _⟩
    ·refine yF (if_neg hkk') ?_;rcases hk' with hk' | hk'
     ·exact a5 k' hk'
     ·exact absurd hk'.symm hkk'
  ·intro m h z3;refine eQ z3 fun z100 a1 a2 z115=>?_;clear z3;refine aq z100 fun x z161=>?_;clear z100;subst z161;refine aM z115 fun es a3 a4 a5=>?_;clear z115;rw[Ef]at a5;have hp1:=om (a:=rows) (Ek hrows (by decide));have hpos:1<=2 ^ rows:=IF (by decide);refine bK (v:= .tup [.ref pd,.int (2 ^ rows - 1:Nat)]) (h1:=h) ?_ (Ed ⟨_,rfl,pd,rows,fun k=>match br es k with
    | some (.int w)=>w.toNat
    | _=>0,rfl,a1,⟨es,a3,fun k hk=> ?_⟩,hrows⟩)
   ·simp only[bd,aB,aU,jQ,cG,aw,aA,ec,wW,oB,oM,hp1];refine yF (show ((2 ^ rows:Nat):Int) - 1=((2 ^ rows - 1:Nat):Int) from by norm_cast) ?_;rfl
   ·refine af (a5 k hk) fun w w1 w2=>?_;refine⟨hkk k hk,?_,?_⟩
    ·simp only[w1];simp
    ·simp only[w1];simpa using w2
 exact⟨a,rows,pat,H',e,r1,r2,r3⟩
noncomputable def partS(ws:List Nat)(full row:Nat):Nat->Nat
 | 0=>full
 | n+1=>partS ws full row n &&& (if row / 2 ^ n % 2=1 then ws.getD n 0 else full - ws.getD n 0)
noncomputable def iL(t:Nat)(ws:List Nat)(full:Nat):Nat->Nat
 | 0=>0
 | n+1=>if t / 2 ^ n % 2=1 then iL t ws full n ||| partS ws full n ws.length else iL t ws full n
theorem Az:partS ws full row 0=full:=rfl
theorem xG:partS ws full row (n+1)=partS ws full row n &&& (if row / 2 ^ n % 2=1 then ws.getD n 0 else full - ws.getD n 0):=rfl
theorem BE:iL t ws full 0=0:=rfl
theorem u5:iL t ws full (n+1)=if t / 2 ^ n % 2=1 then iL t ws full n ||| partS ws full n ws.length else iL t ws full n:=rfl
noncomputable def gW(t:Nat)(ws:List Nat)(full:Nat):Nat:=iL t ws full (2 ^ ws.length)
theorem AA{W n t a full:Nat}{ws:List Nat}(ha:H[a]? =DJ (.list (az ws)))(hl:ws.length<=3)(hf:∀ w∈ws,w<=full):ad P W (n+1) 46 [.int t,.ref a,.int full] H=DJ (.int (gW t ws full:Nat),H):=by
 obtain⟨v,H',e,rfl,rfl⟩:∃ v H',ad P W (n+1) 46 [.int t,.ref a,.int full] H=DJ (v,H')/\v= .int (gW t ws full:Nat)/\H'=H:=by
  let Q0:AV->Hp->Prop:=fun v H'=>v= .int (gW t ws full:Nat)/\H'=H
  refine bQ (Q:=Q0) (fn:=kC) rfl rfl ?_;unfold kC;generalize ad P W n=cl;simp only[mN,mC,dR,dS,DY,Ee,Nat.reduceSub];refine ac (v:= .int 0) (h1:=H) (m1:=[DJ (.int t),DJ (.ref a),DJ (.int full),DJ (.int 0),none,none,none]) rfl rfl ?_;have hp:=om (a:=ws.length) (Ek hl (by decide));have hp8:=m9 hl;dsimp only[Q0];unfold gW;generalize hM:2 ^ ws.length=M at *;let St1:Nat->aZ->Hp->Prop:=fun j m h=>(∃ x y z,m=[DJ (.int t),DJ (.ref a),DJ (.int full),DJ (.int (iL t ws full j:Nat)),x,y,z])/\h=H
  refine da (n:=M) (h1:=H) St1 (by simp only[bd,aB,aU,jQ,cO,aw,aA,ec,oB,oM,dc ha,bT,hp]) (DO hp8 (by decide)) ⟨⟨none,none,none,rfl⟩,rfl⟩ ?_ ?_
  ·intro j m h hj z5;refine am z5 fun z160 z161=>?_;clear z5;refine qB z160 fun x y z z223=>?_;clear z160;subst z223;subst z161;refine⟨[DJ (.int t),DJ (.ref a),DJ (.int full),DJ (.int (iL t ws full j:Nat)),DJ (.int j),y,z],rfl,?_⟩;refine cg (c:=decide (t / 2 ^ j % 2=1)) (h1:=h) (cR (xF (a:=t) (b:=j) rfl rfl (bu (nat_lit 431833203654091201) tt hj hp8))) ?_ ?_
   ·intro hb;have hb:=of_decide_eq_true hb;refine ac (v:= .int full) (h1:=h) (m1:=[DJ (.int t),DJ (.ref a),DJ (.int full),DJ (.int (iL t ws full j:Nat)),DJ (.int j),DJ (.int full),z]) rfl rfl ?_;refine da (n:=ws.length) (h1:=h) (fun i m h'=>(∃ z,m=[DJ (.int t),DJ (.ref a),DJ (.int full),DJ (.int (iL t ws full j:Nat)),DJ (.int j),DJ (.int (partS ws full j i:Nat)),z])/\h'=h) (by simp only[aB,aU,cO,aw,aA,oB,dc ha,bT]) (DO hl (by decide)) ⟨⟨z,rfl⟩,rfl⟩ ?_ ?_
    ·intro i m h hi z5;refine am z5 fun z160 z161=>?_;clear z5;refine aq z160 fun z z221=>?_;clear z160;subst z221;subst z161;refine⟨[DJ (.int t),DJ (.ref a),DJ (.int full),DJ (.int (iL t ws full j:Nat)),DJ (.int j),DJ (.int (partS ws full j i:Nat)),DJ (.int i)],rfl,?_⟩;have hg:=mo hi;have hle:ws.getD i 0<=full:=by
      refine yF Ei ?_;refine yF (gE hi) ?_;exact hf _ (Ey hi)
     have hbt:=xF (cl:=cl) (e:= .loc 4) (f:= .loc 6) (m:=[DJ (.int t),DJ (.ref a),DJ (.int full),DJ (.int (iL t ws full j:Nat)),DJ (.int j),DJ (.int (partS ws full j i:Nat)),DJ (.int i)]) (c:=[]) (h:=h) (a:=j) (b:=i) rfl rfl (bu (nat_lit 431833203654086081) tt hi hl);have hev:aC cl (.ite (.cmp .eq (.bin .mod (.bin .fdiv (.loc 4) (.bin .pow (.const (.int 2)) (.loc 6))) (.const (.int 2))) (.const (.int 1))) (.sub (.loc 1) (.loc 6)) (.bin .sub (.loc 2) (.sub (.loc 1) (.loc 6)))) [DJ (.int t),DJ (.ref a),DJ (.int full),DJ (.int (iL t ws full j:Nat)),DJ (.int j),DJ (.int (partS ws full j i:Nat)),DJ (.int i)] [] h=DJ (.int ((if j / 2 ^ i % 2=1 then ws.getD i 0 else full - ws.getD i 0:Nat):Int),h):=by
      dsimp only[r9];refine yF hbt ?_;simp only[aB,aU,jQ,bD,cq,oB];by_cases hq:j / 2 ^ i % 2=1
      ·simp only[ec,wW,oB,oM,if_true,decide_true,hq,decide_true,if_true,er ha,hg]
      ·simp only[ec,wW,oB,oM,if_false,fE,decide_false,hq,decide_false,fE,if_false,er ha,hg];refine yF (show ((full:Nat):Int) - ((ws.getD i 0:Nat):Int)=((full - ws.getD i 0:Nat):Int) from by exact Ot (Int.ofNat_sub hle)) ?_;rfl
     refine ac (v:= .int (partS ws full j (i+1):Nat)) (h1:=h) (m1:=[DJ (.int t),DJ (.ref a),DJ (.int full),DJ (.int (iL t ws full j:Nat)),DJ (.int j),DJ (.int (partS ws full j (i+1):Nat)),DJ (.int i)]) (iZ (x:= .int (partS ws full j i:Nat)) (h1:=h) rfl hev rfl) rfl (aN ⟨by simp,⟨_,rfl⟩,rfl⟩)
    ·intro m h z3;refine am z3 fun z100 z101=>?_;clear z3;refine aq z100 fun z z161=>?_;clear z100;subst z161;subst z101;refine ac (v:= .int (iL t ws full (j+1):Nat)) (h1:=h) (m1:=[DJ (.int t),DJ (.ref a),DJ (.int full),DJ (.int (iL t ws full (j+1):Nat)),DJ (.int j),DJ (.int (partS ws full j ws.length:Nat)),z]) (by
      simp only[aB,aU,jQ,ec,oB,oM,sq,oM];(dsimp only[u5];refine yF (if_pos hb) ?_;rfl)) rfl (bz ⟨by simp,⟨_,_,_,rfl⟩,rfl⟩)
   ·intro hb;have hb:=of_decide_eq_false hb;refine bz ⟨by simp,⟨DJ (.int j),y,z,?_⟩,rfl⟩;dsimp only[u5];refine yF (if_neg hb) ?_;rfl
  ·intro m h z3;refine am z3 fun z100 z101=>?_;clear z3;refine qB z100 fun x y z z163=>?_;clear z100;subst z163;subst z101;exact bK (v:= .int (iL t ws full M:Nat)) (h1:=h) rfl (Ed ⟨_,rfl,rfl,rfl⟩)
 exact e
theorem hZ(a n:Nat):(a / 2 ^ n % 2=1)=(a.testBit n=true):=by
 refine yF Hb ?_;simp
theorem sL(hj:j<rows):(2 ^ rows - 1).testBit j=true:=by
 refine DK (Nat.testBit_two_pow_sub_one _ _) ?_;simpa using hj
theorem xH(hj:j<rows)(hw:w<2 ^ rows):(2 ^ rows - 1 - w).testBit j= !w.testBit j:=by
 refine yF (Nat.sub_sub _ _ _) ?_;refine yF (L2 1 w) ?_;refine DK ((Nat.testBit_two_pow_sub_succ hw) _) ?_;simp[hj]
noncomputable def pw(ws:List Nat)(row j:Nat):Nat->Bool
 | 0=>true
 | n+1=>pw ws row j n&&(row.testBit n == (ws.getD n 0).testBit j)
theorem zT:pw ws row j 0=true:=rfl
theorem zU:pw ws row j (n+1)=(pw ws row j n&&(row.testBit n == (ws.getD n 0).testBit j)):=rfl
theorem wg(hj:j<rows)(hw:∀ w∈ws,w<2 ^ rows):∀ n,n<=ws.length->(partS ws (2 ^ rows - 1) row n).testBit j=pw ws row j n:=by
 intro n;induction n with
 | zero=>intro _;rewrite[Az,zT];exact sL hj
 | succ n ih=>
  intro hn;have hwn:ws.getD n 0<2 ^ rows:=by
   refine yF Ei ?_;refine yF (gE (by with_unfolding_all exact bu (nat_lit 12129324516800) tt hn)) ?_;exact hw _ (Ey (bu (nat_lit 12129324516800) tt hn))
  rewrite[xG,zU];refine DK (Nat.testBit_and _ _ _) ?_;refine yF (ih (by with_unfolding_all exact bu (nat_lit 11029812889024) tt hn)) ?_;congr 1;by_cases h:row / 2 ^ n % 2=1
  ·refine yF (if_pos h) ?_;rw[hZ]at h;refine yF h ?_;cases (ws.getD n 0).testBit j<;>rfl
  ·refine yF (if_neg h) ?_;refine DK (xH hj hwn) ?_;rw[hZ]at h;have h:row.testBit n=false:=by simpa using h
   refine yF h ?_;cases (ws.getD n 0).testBit j<;>rfl
theorem xI:∀ n,pw ws row j n=true↔∀ i,i<n->row.testBit i=(ws.getD i 0).testBit j:=by
 intro n;induction n with
 | zero=>rewrite[zT];simp
 | succ n ih=>
  rewrite[zU];refine yF (Eb _ _) ?_;rewrite[ih];rewrite[beq_iff_eq];constructor
  ·intro z1 i hi;refine am z1 fun a b=>?_;clear z1;by_cases h:i=n
   ·subst h;exact b
   ·exact a i (GZ (FT hi) h)
  ·intro a;exact⟨fun i hi=>a i (Eg hi),a n (EA _)⟩
theorem lD:∀ (l:List Bool) (i:Nat),(cJ l).testBit i=l.getD i false:=by
 intro l;induction l with
 | nil=>intro i;rewrite[xh];simp
 | cons b l ih=>
  intro i;rewrite[sz];cases i with
  | zero=>cases b<;>simp[Nat.testBit_zero,Nat.add_mod,Nat.mul_mod_right]
  | succ i=>
   refine yF getD_cons_succ ?_;refine DK ?_ (ih i);refine yF (JY _ _) ?_;congr 1;cases b<;>simp<;>lia
theorem zf{l:List Bool}(hr:row<2 ^ l.length)(h:∀ i,i<l.length->row.testBit i=l.getD i false):row=cJ l:=by
 apply IG;intro i;by_cases hi:i<l.length
 ·refine DK (h i hi) ?_;refine yF (lD _ _) ?_;rfl
 ·have hp:2 ^ l.length<=2 ^ i:=GB (by decide) (Fe.mp hi);refine DK (Gs (Ea hr hp)) ?_;refine yF (Gs (Ea (lk l) hp)) ?_;rfl
noncomputable def dw(ws:List Nat)(j:Nat):List Bool:=ws.map fun w=>w.testBit j
theorem pV(ws:List Nat)(i j:Nat):(dw ws j).getD i false=(ws.getD i 0).testBit j:=by
 unfold dw;refine DK Ei ?_;refine yF Ei ?_;refine yF DX ?_;cases ws[i]? <;>simp
theorem xJ(hj:j<rows)(hw:∀ w∈ws,w<2 ^ rows):∀ n,n<=2 ^ ws.length->(iL t ws (2 ^ rows - 1) n).testBit j=(decide (cJ (dw ws j)<n)&&t.testBit (cJ (dw ws j))):=by
 intro n;induction n with
 | zero=>intro _;rewrite[BE];simp
 | succ n ih=>
  intro hn;have hbl:(dw ws j).length=ws.length:=DR _;have key:pw ws n j ws.length=decide (n=cJ (dw ws j)):=by
   have h1:pw ws n j ws.length=true↔n=cJ (dw ws j):=by
    rewrite[xI];constructor
    ·intro a;refine zf (by refine yF hbl ?_;exact bu (nat_lit 12129324516800) tt hn) (fun i hi=> ?_);refine yF (pV _ _ _) ?_;exact a i (bS (nat_lit 12129358852130) tt hi hbl)
    ·intro a i hi;refine yF a ?_;refine DK (lD _ _) ?_;refine DK (pV _ _ _) ?_;rfl
   by_cases h2:n=cJ (dw ws j)
   ·refine DK (h1.mpr h2) ?_;simp[h2]
   ·have:pw ws n j ws.length=false:=by
     cases h3:pw ws n j ws.length with
     | true=>exact absurd (h1.mp h3) h2
     | false=>rfl
    refine DK this ?_;simp[h2]
  rewrite[u5];by_cases h:t / 2 ^ n % 2=1
  ·refine yF (if_pos h) ?_;refine DK (Nat.testBit_or _ _ _) ?_;refine yF (ih (by with_unfolding_all exact bu (nat_lit 11029812889024) tt hn)) ?_;refine yF (wg hj hw _ (DV _)) ?_;refine yF key ?_;rw[hZ]at h;by_cases h2:n=cJ (dw ws j)
   ·refine yB h2 ?_;refine yF h ?_;simp
   ·have e1:decide (cJ (dw ws j)<n+1)=decide (cJ (dw ws j)<n):=decide_eq_decide.mpr (Bm h2);refine yF e1 ?_;simp[h2]
  ·refine yF (if_neg h) ?_;refine DK (ih (by with_unfolding_all exact bu (nat_lit 11029812889024) tt hn)) ?_;rw[hZ]at h;have h:t.testBit n=false:=by simpa using h
   by_cases h2:n=cJ (dw ws j)
   ·refine yB h2 ?_;refine yF h ?_;simp
   ·have e1:decide (cJ (dw ws j)<n+1)=decide (cJ (dw ws j)<n):=decide_eq_decide.mpr (Bm h2);refine yF e1 ?_;rfl
theorem pW(hj:j<rows)(hw:∀ w∈ws,w<2 ^ rows):(gW t ws (2 ^ rows - 1)).testBit j=t.testBit (cJ (dw ws j)):=by
 unfold gW;refine DK (xJ hj hw _ (DV _)) ?_;have h1:=lk (dw ws j);have h2:(dw ws j).length=ws.length:=DR _;rw[h2]at h1;simp[h1]
theorem xK:∀ n,partS ws full row n<=full:=by
 intro n;induction n with
 | zero=>exact DV _
 | succ n ih=>rewrite[xG];exact DO Kn ih
theorem zg:∀ n,iL t ws (2 ^ rows - 1) n<2 ^ rows:=by
 intro n;have hp:0<2 ^ rows:=IF (by decide);induction n with
 | zero=>exact hp
 | succ n ih=>
  rewrite[u5];split
  ·refine JE ih ?_;have:=xK (ws:=ws) (full:=2 ^ rows - 1) (row:=n) ws.length;exact Nat.lt_of_le_pred hp this
  ·exact ih
theorem sM:gW t ws (2 ^ rows - 1)<2 ^ rows:=zg _
theorem sN(ha:a<2 ^ rows)(hb:b<2 ^ rows)(h:∀ j,j<rows->a.testBit j=b.testBit j):a=b:=by
 apply IG;intro i;by_cases hi:i<rows
 ·exact h i hi
 ·have hp:2 ^ rows<=2 ^ i:=GB (by decide) (Fe.mp hi);refine DK (Gs (Ea ha hp)) ?_;refine yF (Gs (Ea hb hp)) ?_;rfl
noncomputable def sO(p:jv)(j:Nat):AV:= .tup [.str p.1,.int j]
noncomputable def lX(l:List aj):List aj:=l.filter fun c=> !bh c.kind
structure jk(N:NL)(pat:AV->Nat)(rows:Nat)(W:Int->Nat):Prop where
 z:W 0=0
 o:W 1=2 ^ rows - 1
 i:∀ p∈N.inputs,∀ j x,p.2[j]? =DJ x->W x=pat (sO p j)
 s:∀ c∈N.cells,bh c.kind=true->W c.out=pat (.str (cr c.param))
 c:∀ c∈N.cells,bh c.kind=false->W c.out=gW (eJ c.kind c.param) (c.ins.map W) (2 ^ rows - 1)
 lt:∀ x∈bq N++outs N,W x<2 ^ rows
noncomputable def mY(W:Int->Nat)(x:Int)(v:Nat):Int->Nat:=fun y=>if x=y then v else W y
noncomputable def fW(S:List Int)(W:Int->Nat):Int->Option Int:=fun x=>if x∈S then DJ (W x:Int) else none
theorem AB{S:List Int}{W:Int->Nat}{x:Int}{v:Nat}(h:x∉S):upd (fW S W) x v=fW (S++[x]) (mY W x v):=by
 funext y
 unfold upd fW mY;by_cases q:x=y
 ·subst q;simp
 ·have q2:¬ y=x:=fun e=>q e.symm;simp[q,q2]
structure WS(N:NL)(pat:AV->Nat)(rows:Nat)(W:Int->Nat)(S:List Int)(J:Nat)(st D:List aj):Prop where
 z:0∈S/\W 0=0
 o:1∈S/\W 1=2 ^ rows - 1
 i:∀ p∈N.inputs.take J,∀ j x,p.2[j]? =DJ x->x∈S/\W x=pat (sO p j)
 s:∀ c∈st,c.out∈S/\W c.out=pat (.str (cr c.param))
 c:∀ c∈D,c.out∈S/\(∀ y∈c.ins,y∈S)/\W c.out=gW (eJ c.kind c.param) (c.ins.map W) (2 ^ rows - 1)
 lt:∀ x∈S,W x<2 ^ rows
theorem oq{W:Int->Nat}{S:List Int}{x:Int}{v:Nat}(h:x∉S){y:Int}(hy:y∈S):mY W x v y=W y:=by
 have hne:¬ x=y:=fun e=>h (by refine yF e ?_;exact hy);unfold mY;refine DK (if_neg hne) ?_;rfl
theorem lE{W:Int->Nat}{x:Int}{v:Nat}:mY W x v x=v:=by unfold mY;refine DK (if_pos rfl) ?_;rfl
theorem WS.upd{N:NL}{pat:AV->Nat}{rows J:Nat}{W:Int->Nat}{S:List Int}{st D:List aj}(w:WS N pat rows W S J st D){x:Int}{v:Nat}(hx:x∉S)(hv:v<2 ^ rows):WS N pat rows (mY W x v) (S++[x]) J st D:=by
 have old:∀ y∈S,mY W x v y=W y:=fun y hy=>oq hx hy;refine⟨⟨by simp[w.z.1],by refine yF (old _ w.z.1) ?_;exact w.z.2⟩,⟨by simp[w.o.1],by refine yF (old _ w.o.1) ?_;exact w.o.2⟩,fun p hp j y hy=> ?_,fun c hc=> ?_,fun c hc=> ?_,fun y hy=> ?_⟩
 ·refine am (w.i p hp j y hy) fun a b=>?_;exact⟨by simp[a],by refine DK (old _ a) ?_;exact b⟩
 ·refine am (w.s c hc) fun a b=>?_;exact⟨by simp[a],by refine DK (old _ a) ?_;exact b⟩
 ·refine bY (w.c c hc) fun a b d=>?_;refine⟨by simp[a],fun y hy=>by simp[b y hy],?_⟩;refine DK (old _ a) ?_;refine DK d ?_;congr 1;exact EX fun y hy=>(old y (b y hy)).symm
 ·rw[DZ,DT]at hy;rcases hy with hy | rfl
  ·refine yF (old y hy) ?_;exact w.lt y hy
  ·refine yF lE ?_;exact hv
theorem uk(l:List aj):(eh l++lX l).Perm l:=by
 unfold eh lX;induction l with
 | nil=>exact KP _
 | cons c l ih=>
  cases h:bh c.kind with
  | true=>simp only[Gp,h,if_true,ET,fE,if_false,dS];exact ih.cons c
  | false=>
   simp only[Gp,h,if_true,ID,fE,if_false];exact HV.trans (ih.cons c)
theorem gq:c∈lX l↔c∈l/\bh c.kind=false:=by unfold lX;rewrite[E5];simp
theorem gr:c∈eh l↔c∈l/\bh c.kind=true:=by unfold eh;rewrite[E5];rfl
noncomputable def bB(N:NL):List Int:=bq N++(eh N.cells).map (·.out)
theorem cn.nd2{N:NL}(g:cn N){D E:List aj}(h:(D++E).Perm (lX N.cells)):(bB N++D.map (·.out)++E.map (·.out)).Nodup:=by
 have h1:(bB N++D.map (·.out)++E.map (·.out)).Perm (bq N++outs N):=by
  unfold bB outs;refine yF (D1 _ _ _) ?_;refine yF (D1 _ _ _) ?_;refine yB Ez ?_;refine yB Ez ?_;exact F5 _ ((F5 (eh N.cells) h).trans (uk N.cells) |>.map _)
 exact h1.nodup_iff.mpr g.nd
theorem ul(f:aj->Nat):∀ l:List aj,l≠[]->∃ c∈l,∀ d∈l,f c<=f d:=by
 intro l;induction l with
 | nil=>intro h;exact absurd rfl h
 | cons a l ih=>
  intro _;by_cases hl:l=[]
  ·subst hl;exact⟨a,by simp,fun d hd=>by rw[DT]at hd;subst hd;exact DV _⟩
  ·refine af (ih hl) fun c hc hm=>?_;by_cases hac:f a<=f c
   ·refine⟨a,by simp,fun d hd=> ?_⟩;rw[ER]at hd;rcases hd with rfl | hd
    ·exact DV _
    ·exact DO hac (hm d hd)
   ·refine⟨c,by simp[hc],fun d hd=> ?_⟩;rw[ER]at hd;rcases hd with rfl | hd
    ·exact bu (nat_lit 336604192) tt (Nat.lt_of_not_le hac)
    ·exact hm d hd
theorem iM{y:Int}(h:y∈bq N++outs N):y∈bB N\/∃ d∈lX N.cells,d.out=y:=by
 rw[DZ]at h;rcases h with h | h
 ·left;unfold bB;simp[h]
 ·unfold outs at h;rw[Es]at h;refine af h fun d hd z3=>?_;clear h;subst z3;cases hk:bh d.kind with
  | true=>
   left
   unfold bB;rewrite[DZ];right
   exact Es.mpr ⟨d,gr.mpr ⟨hd,hk⟩,rfl⟩
  | false=>right;exact⟨d,gq.mpr ⟨hd,hk⟩,rfl⟩
theorem cn.progress{N:NL}(g:cn N){D left:List aj}(h:(D++left).Perm (lX N.cells))(hl:left≠[]):∃ c∈left,∀ y∈c.ins,y∈bB N++D.map (·.out):=by
 refine aq g.acyc fun rank hr=>?_;refine af (ul (fun c=>rank c.out) left hl) fun c hc hm=>?_;have hcb:c∈lX N.cells:=h.mem_iff.mp (Fj _ hc);rw[gq]at hcb;refine⟨c,hc,fun y hy=> ?_⟩;rcases iM (g.drv c hcb.1 y hy) with q | ⟨d,hd,rfl⟩
 ·exact Fv _ q
 ·have hd2:=gq.mp hd;have hlt:=hr c hcb.1 hcb.2 d hd2.1 hd2.2 hy;have:d∈D++left:=h.mem_iff.mpr hd;rw[DZ]at this;rcases this with q | q
  ·exact Fj _ (Es.mpr ⟨d,q,rfl⟩)
  ·have:=hm d q;exact absurd (by assumption) (Gh (by assumption))
theorem WS.sat{N:NL}{pat:AV->Nat}{rows:Nat}{W:Int->Nat}{D:List aj}(w:WS N pat rows W (bB N++D.map (·.out)) N.inputs.length (eh N.cells) D)(h:D.Perm (lX N.cells)):jk N pat rows W/\∀ x∈bq N++outs N,x∈bB N++D.map (·.out):=by
 have hm:∀ x∈bq N++outs N,x∈bB N++D.map (·.out):=by
  intro x hx;rcases iM hx with q | ⟨d,hd,rfl⟩
  ·exact Fv _ q
  ·exact Fj _ (Es.mpr ⟨d,h.mem_iff.mpr hd,rfl⟩)
 refine⟨⟨w.z.2,w.o.2,fun p hp j x hx=>(w.i p (by refine yF Ef ?_;exact hp) j x hx).2,fun c hc hk=>(w.s c (gr.mpr ⟨hc,hk⟩)).2,fun c hc hk=>(w.c c (h.mem_iff.mpr (gq.mpr ⟨hc,hk⟩))).2.2,fun x hx=>w.lt x (hm x hx)⟩,hm⟩
theorem jk.unique{pat:AV->Nat}{rows:Nat}{W V:Int->Nat}(g:cn N)(a:jk N pat rows W)(b:jk N pat rows V):∀ x∈bq N++outs N,W x=V x:=by
 refine aq g.acyc fun rank hr=>?_;have src:∀ x∈bB N,W x=V x:=by
  intro x hx;unfold bB bq at hx;simp only[DZ,ER,EW,or_false]at hx;rcases hx with ((rfl | rfl) | hx) | hx
  ·refine DK a.z ?_;refine yF b.z ?_;rfl
  ·refine DK a.o ?_;refine yF b.o ?_;rfl
  ·unfold ar at hx;rw[G3]at hx;refine af hx ?_;clear hx;intro p hp hx;refine aq (FJ hx) fun j hj=>?_;refine DK (a.i p hp j x hj) ?_;refine yF (b.i p hp j x hj) ?_;rfl
  ·rw[Es]at hx;refine af hx fun c hc z3=>?_;clear hx;subst z3;rw[gr]at hc;refine DK (a.s c hc.1 hc.2) ?_;refine yF (b.s c hc.1 hc.2) ?_;rfl
 have key:∀ n,∀ c∈lX N.cells,rank c.out<n->W c.out=V c.out:=by
  intro n;induction n with
  | zero=>intro c _ h;norm_cast
  | succ n ih=>
   intro c hc hn;rw[gq]at hc;refine DK (a.c c hc.1 hc.2) ?_;refine yF (b.c c hc.1 hc.2) ?_;congr 1;apply EX;intro y hy;rcases iM (g.drv c hc.1 y hy) with q | ⟨d,hd,rfl⟩
   ·exact src y q
   ·have hd2:=gq.mp hd;have:=hr c hc.1 hc.2 d hd2.1 hd2.2 hy;exact ih d hd (bS (nat_lit 397454830840887330) tt this hn)
 intro x hx;rcases iM hx with q | ⟨d,hd,rfl⟩
 ·exact src x q
 ·exact key _ d hd (EA _)
theorem wh{n:Nat}(l:List Bool):(l.map AV.bool).mapM (res h (n+1))=DJ (l.map fun b=>D.int (if b then 1 else 0)):=by
 induction l with
 | nil=>rfl
 | cons a l ih=>
  refine yF mC ?_;refine yF Fg ?_;refine yF ih ?_;rfl
theorem kN{x:Bool}{l:List Bool}:kf h (.bool x) (l.map AV.bool)=DJ (decide (x∈l)):=by
 unfold kf;refine yF (show dn=23+1 from rfl) ?_;refine yF (wh _) ?_;simp only[CF,oB,oM];congr 1;rewrite[decide_eq_decide];constructor
 ·intro q;refine af (Es.mp q) fun y hy e=>?_;have:y=x:=by cases y<;>cases x<;>simp_all
  refine yB this ?_;exact hy
 ·intro q;exact Es.mpr ⟨x,q,rfl⟩
theorem xL{x:Bool}{l:List Bool}(e1:aC cl e m c h=DJ (.ref a,h1))(e2:h1[a]? =DJ (.list (l.map AV.bool))):aC cl (.cmp .in_ (.const (.bool x)) e) m c h=DJ (.bool (decide (x∈l)),h1):=by
 have:bc h1 (.bool x) (.ref a)=DJ (decide (x∈l)):=by
  unfold bc;simp only[e2];exact kN
 exact fK (x:= .bool x) (y:= .ref a) (h1:=h) rfl e1 (by simp only[kF,this])
theorem sP(hp:p∈N.inputs)(hj:j<p.2.length):sO p j∈de N:=by
 dsimp only[fD];rewrite[DZ];left
 unfold f8;rewrite[G3];exact⟨p,hp,Es.mpr ⟨j,E7.mpr hj,rfl⟩⟩
theorem sQ(hc:c∈eh N.cells):AV.str (cr c.param)∈de N:=by
 dsimp only[fD];rewrite[DZ];right
 exact Es.mpr ⟨_,Es.mpr ⟨c,hc,rfl⟩,rfl⟩
theorem kO{r M v:Nat}{S:List Int}{W:Int->Nat}{x:Int}(d:aY h r (fW S W) M)(hx:x∉S)(hM:M<1000):∃ o,dq h (.ref r) (.int x) (.int v)=DJ (h.set r o)/\aY (h.set r o) r (fW (S++[x]) (mY W x v)) (M+1):=by
 have:=d.put x v hM;rw[AB hx]at this;exact this
theorem zh{n L pa rows:Nat}{N:NL}{H:Hp}{pat:AV->Nat}{ks:List AV}(q:aI H L N)(g:cn N)(hp:ji H pa pat ks rows)(hk:∀ k∈de N,k∈ks):∃ r S W M H',ad P 1000 (n+3) 47 [.ref (L+1),.ref pa,.int (2 ^ rows - 1:Nat)] H=DJ (.ref r,H')/\ai H H'/\aY H' r (fW S W) M/\jk N pat rows W/\∀ x∈bq N++outs N,x∈S:=by
 obtain⟨v,H',e,r,S,W,M,rfl,r1,r2,r3,r4⟩:∃ v H',ad P 1000 (n+3) 47 [.ref (L+1),.ref pa,.int (2 ^ rows - 1:Nat)] H=DJ (v,H')/\∃ r S W M,v= .ref r/\ai H H'/\aY H' r (fW S W) M/\jk N pat rows W/\∀ x∈bq N++outs N,x∈S:=by
  let Q0:AV->Hp->Prop:=fun v H'=>∃ r S W M,v= .ref r/\ai H H'/\aY H' r (fW S W) M/\jk N pat rows W/\∀ x∈bq N++outs N,x∈S
  refine bQ (Q:=Q0) (fn:=jq) rfl rfl ?_;unfold jq;have hst:=fun (H:Hp) (q:aI H L N)=>lA (W:=1000) (n:=n+1) q (by have:=g.small.cc;exact DO this (by decide));have htab:=fun (H:Hp) (k:Nm) (l:Nat) (p:AV) (ok:aT k l p)=>zd (W:=1000) (n:=n+1) (H:=H) ok;have hword:=fun (H:Hp) (t a:Nat) (ws:List Nat)=>AA (W:=1000) (n:=n+1) (t:=t) (a:=a) (full:=2 ^ rows - 1) (ws:=ws) (H:=H);simp only[FO,Nat.reduceAdd]at hst htab hword;generalize ad P 1000 (n+2)=cl at *;simp only[mN,mC,dR,dS,DY,Ee,Nat.reduceSub,zS,t5,xn,xp];have hbits:=g.bits;have hcc:=g.small.cc;have hsl:=lC N.cells;have hpos:0<2 ^ rows:=IF (by decide);have hw:∀ (W:Int->Nat) (S:List Int) (l:List Int),(∀ x∈S,W x<2 ^ rows)->(∀ y∈l,y∈S)->∀ w∈l.map W,w<=2 ^ rows - 1:=by
   intro W S l h1 h2 w hw;refine af (Es.mp hw) fun y hy z3=>?_;subst z3;have:=h1 y (h2 y hy);exact bS (nat_lit 361426033788368930) tt this (Bd _ _)
  generalize hfull:2 ^ rows - 1=full at *;have hfl:full<2 ^ rows:=by omega
  refine ac (v:= .ref H.length) (h1:=H++[.dict [(.int 0,.int 0),(.int 1,.int full)]]) (m1:=[DJ (.ref (L+1)),DJ (.ref pa),DJ (.int full),DJ (.ref H.length),none,none,none,none,none,none,none]) rfl rfl ?_;have k0:ai H (H++[.dict [(.int 0,.int 0),(.int 1,.int full)]]):=ai.push _ _;have d0:aY (H++[.dict [(.int 0,.int 0),(.int 1,.int full)]]) H.length (fW [0,1] (fun x=>if x=1 then full else 0)) 2:=by
   refine⟨_,au,by simp,fun x=> ?_⟩;rewrite[dC,dC,wS];unfold fW;by_cases h0:(0:Int)=x
   ·subst h0;simp
   ·by_cases h1:(1:Int)=x
    ·subst h1;simp
    ·have h0':¬ x=0:=fun e=>h0 e.symm;have h1':¬ x=1:=fun e=>h1 e.symm;simp[h0,h1,h0',h1']
  have w0:WS N pat rows (fun x=>if x=1 then full else 0) [0,1] 0 [] []:=⟨⟨by simp,by simp⟩,⟨by simp,by refine yF hfull ?_;simp⟩,by simp,by simp,by simp,fun x hx=>by split<;>(first | exact hfl | exact hpos)⟩;generalize H++[AO.dict [(.int 0,.int 0),(.int 1,.int full)]]=h0 at *;generalize (fun x:Int=>if x=1 then full else 0)=W0 at *;have q0:=q.keep k0;have at0:=q0.attr;refine af q.inp fun vi i1 i2=>?_;let St1:Nat->aZ->Hp->Prop:=fun j m h=>(∃ x y z,m=[DJ (.ref (L+1)),DJ (.ref pa),DJ (.int full),DJ (.ref H.length),x,y,z,none,none,none,none])/\ai H h/\∃ W,aY h H.length (fW ([0,1]++ar (N.inputs.take j)) W) ([0,1]++ar (N.inputs.take j)).length/\WS N pat rows W ([0,1]++ar (N.inputs.take j)) j [] []
  refine dM (x:= .ref (L+2)) (vs:=vi) (gd:=DJ (L+2,.list vi)) (h1:=h0) St1
   (by simp only[aB,cV,oB,at0]) (aF _ _ _ (k0 _ _ i1)) ⟨⟨none,none,none,rfl⟩,k0,W0,d0,w0⟩ (fun j m h _ s=>by unfold av;simp[s.2.1 _ _ i1]) ?_ ?_
  ·intro j v m h hv z6;refine bY z6 fun z190 a1 z205=>?_;clear z6;refine qB z190 fun x y z z253=>?_;clear z190;subst z253;refine af z205 fun W a2 a3=>?_;clear z205;have hj:=(gS.mp hv).1;rw[i2.1]at hj;have hjl:j<20:=Ea hj g.small.ci;refine aM (i2.2 j _ (gE hj)) fun a b1 b2 b3=>?_;have ht:N.inputs.take (j+1)=N.inputs.take j++[N.inputs[j]]:=by (refine DK E1 ?_;refine yF (gE hj) ?_);rfl
   have hpl:=g.small.pi _ (Ey hj);have hpm:=Ey hj;have hdr:ar N.inputs=ar (N.inputs.take j)++(N.inputs[j].2++ar (N.inputs.drop (j+1))):=by
    have:N.inputs=N.inputs.take j++(N.inputs[j]::N.inputs.drop (j+1)):=by (refine yB (EO hj) ?_;refine yF (FM _ _) ?_;rfl)
    conv=>lhs;rw[this]
    unfold ar;refine DK FR ?_;refine yF Fo ?_;rfl
   generalize N.inputs[j]=p at *;rw[hv]at b2;revert hv;refine jR b2 ?_;intro hv;have hnl:(ar (N.inputs.take j)).length+p.2.length<=6:=by
    have:(ar N.inputs).length=(ar (N.inputs.take j)).length+(p.2.length+(ar (N.inputs.drop (j+1))).length):=by (refine yF hdr ?_;refine DK DU ?_;refine yF DU ?_;rfl)
    exact wK (nat_lit 13247712558668954661565177986) tt this hbits
   refine⟨[DJ (.ref (L+1)),DJ (.ref pa),DJ (.int full),DJ (.ref H.length),DJ (.str p.1),DJ (.ref a),z,none,none,none,none],rfl,?_⟩;have b4:=a1 _ _ b3;let St2:Nat->aZ->Hp->Prop:=fun i m h=>(∃ z,m=[DJ (.ref (L+1)),DJ (.ref pa),DJ (.int full),DJ (.ref H.length),DJ (.str p.1),DJ (.ref a),z,none,none,none,none])/\ai H h/\∃ W,aY h H.length (fW ([0,1]++ar (N.inputs.take j)++p.2.take i) W) ([0,1]++ar (N.inputs.take j)++p.2.take i).length/\WS N pat rows W ([0,1]++ar (N.inputs.take j)++p.2.take i) j [] []/\∀ i' x,(p.2.take i)[i']? =DJ x->x∈([0,1]++ar (N.inputs.take j)++p.2.take i)/\W x=pat (sO p i')
   refine da (n:=p.2.length) (h1:=h) St2
    (by simp only[aB,aU,cO,aw,aA,oB,dc b4,aQ]) (DO hpl (by decide)) ⟨⟨_,rfl⟩,a1,W,by simpa using a2,by simpa using a3,by simp⟩ ?_ ?_
   ·intro i m h hil z5;refine bY z5 fun z160 a1 z175=>?_;clear z5;refine aq z160 fun z z221=>?_;clear z160;subst z221;refine aM z175 fun W a2 a3 a4=>?_;clear z175;have hpi:p.2[i]? =DJ p.2[i]:=gE hil;have hti:=bn hpi;have hpd:p.2=p.2.take i++(p.2[i]::p.2.drop (i+1)):=by (refine yB (EO hil) ?_;refine yF (FM _ _) ?_;rfl)
    generalize p.2[i]=x at *;have hx:x∉[0,1]++ar (N.inputs.take j)++p.2.take i:=iI g.nd (q:=p.2.drop (i+1)++ar (N.inputs.drop (j+1))++outs N) (by
     unfold bq;refine yF hdr ?_;conv=>lhs;rw[hpd]
     simp only[D1,dS])
    have hpk:=(hp.keep a1).sub (hk _ (sP hpm hil));refine af hp fun es hes hes2=>?_;clear hp;refine bY (hes2 _ (hk _ (sP hpm hil))) fun uu uu hlt=>?_;have b5:=a1 _ _ b3;have hgx:(aa p.2)[i]? =DJ (.int x):=by unfold aa;rewrite[DX];refine yF hpi ?_;rfl
    refine af (kO (v:=pat (sO p i)) a2 hx (by simp;exact bS (nat_lit 15291171869233080700792037515403328) tt (EE _ _) hnl)) fun o o1 o2=>?_;have a3':=a3.upd hx hlt;refine⟨[DJ (.ref (L+1)),DJ (.ref pa),DJ (.int full),DJ (.ref H.length),DJ (.str p.1),DJ (.ref a),DJ (.int i),none,none,none,none],rfl,?_⟩;have hkey:aC cl (.sub (.loc 1) (.tup [(.loc 4),(.loc 6)])) [DJ (.ref (L+1)),DJ (.ref pa),DJ (.int full),DJ (.ref H.length),DJ (.str p.1),DJ (.ref a),DJ (.int i),none,none,none,none] [] h=DJ (.int (pat (sO p i):Nat),h):=jZ (x:= .ref pa) (y:=sO p i) (h1:=h) (h2:=h) rfl (by simp only[aB,aU,cG,aw,aA,oB]<;>rfl) hpk;refine bk (x:= .ref H.length) (y:= .int x) (h2:=h) (h3:=h) hkey rfl (by simp only[aB,aU,bD,oB,er b5,hgx]) o1 (aN ⟨by simp,⟨_,rfl⟩,a1.set (DV _),mY W x (pat (sO p i)),?_,?_,?_⟩)
    ·refine yF hti ?_;refine yB (D1 _ _ _) ?_;refine yF (DU (bs:=[x])) ?_;dsimp only[Ex];exact o2
    ·refine yF hti ?_;refine yB (D1 _ _ _) ?_;exact a3'
    ·intro i' y hy;rw[hti]at hy ⊢;by_cases hi':i'<(p.2.take i).length
     ·rw[Eh hi']at hy;refine am (a4 i' y hy) fun c1 c2=>?_;refine yB (D1 _ _ _) ?_;exact⟨Fv _ c1,by refine DK (oq hx c1) ?_;exact c2⟩
     ·have hl:=(gS.mp hy).1;rw[DU,Ex]at hl;have hi2:i'=(p.2.take i).length:=Eo (bu (nat_lit 11029854074912) tt hl) (bu (nat_lit 336603168) tt (E6 hi'));subst hi2;rw[D9 (DV _),EH]at hy;refine jA hy ?_;have:(p.2.take i).length=i:=by refine DK EG ?_;exact Ij (EK (by assumption))
      refine yF this ?_;exact⟨by simp,lE⟩
   ·intro m h z3;refine bY z3 fun z100 a1 z115=>?_;clear z3;refine aq z100 fun z z161=>?_;clear z100;subst z161;refine aM z115 fun W a2 a3 a4=>?_;clear z115;rw[Ef]at a2 a3 a4;have hnt:[0,1]++ar (N.inputs.take (j+1))=[0,1]++ar (N.inputs.take j)++p.2:=by
     refine yF ht ?_;unfold ar;refine yF FR ?_;refine yF Fo ?_;refine yF G2 ?_;refine yF (EC _) ?_;refine yB (D1 _ _ _) ?_;rfl
    refine aN ⟨by simp,⟨_,_,_,rfl⟩,a1,W,by refine yF hnt ?_;exact a2,?_⟩;refine yF hnt ?_;refine⟨a3.z,a3.o,fun p' hp' i' x hx=> ?_,a3.s,a3.c,a3.lt⟩;rw[ht,DZ,DT]at hp';rcases hp' with hp' | rfl
    ·exact a3.i p' hp' i' x hx
    ·exact a4 i' x hx
  ·intro m h z3;refine bY z3 fun z100 a1 z115=>?_;clear z3;refine qB z100 fun x y z z163=>?_;clear z100;subst z163;refine af z115 fun W a2 a3=>?_;clear z115;rw[i2.1,Ef]at a2;rw[i2.1,Ef]at a3;change aY h H.length (fW (bq N) W) (bq N).length at a2;change WS N pat rows W (bq N) N.inputs.length [] []at a3;have hsrl:(bq N).length<=8:=by unfold bq;simp;exact bu (nat_lit 376514372116512) tt hbits
   clear k0 d0 w0 q0 at0;refine cp (hst h (q.keep a1)) fun sa h1 b1 b2 b3 b4=>?_;have hltd:=a2.lt;have hnd:=g.nd2 (D:=[]) (E:=lX N.cells) (by simp);let St3:Nat->aZ->Hp->Prop:=fun j m h=>(∃ w,m=[DJ (.ref (L+1)),DJ (.ref pa),DJ (.int full),DJ (.ref H.length),x,y,z,w,none,none,none])/\ai H h/\h[sa]? =DJ (.list ((eh N.cells).map aj.v))/\∃ W,aY h H.length (fW (bq N++((eh N.cells).take j).map (·.out)) W) ((bq N).length+j)/\WS N pat rows W (bq N++((eh N.cells).take j).map (·.out)) N.inputs.length ((eh N.cells).take j) []
   refine dM (x:= .ref sa) (vs:=(eh N.cells).map aj.v) (gd:=DJ (sa,.list ((eh N.cells).map aj.v))) (h1:=h1) St3
    (aJ (vs:=[.ref (L+1)]) (h1:=h) rfl b1) (aF _ _ _ b4) ⟨⟨none,rfl⟩,a1.trans b2,b4,W,by simpa using a2.keep b2,by simpa using a3⟩ (fun j m h _ s=>by unfold av;simp[s.2.2.1]) ?_ ?_
   ·intro j v m h hv z6;refine eQ z6 fun z190 a1 a4 z205=>?_;clear z6;refine aq z190 fun w z251=>?_;clear z190;subst z251;refine af z205 fun W a2 a3=>?_;clear z205;have hj:=(gS.mp hv).1;rw[DR]at hj;have hcj:(eh N.cells)[j]? =DJ (eh N.cells)[j]:=gE hj;rw[DX,hcj]at hv;have hcm:=Ey hj;have htk:=bn hcj;have hsp:eh N.cells=(eh N.cells).take j++((eh N.cells)[j]::(eh N.cells).drop (j+1)):=by (refine yB (EO hj) ?_;refine yF (FM _ _) ?_;rfl)
    generalize (eh N.cells)[j]=c at *;simp only[oM,D7]at hv;subst hv;have hx:c.out∉bq N++((eh N.cells).take j).map (·.out):=iI hnd (q:=((eh N.cells).drop (j+1)).map (·.out)++([]:List aj).map (·.out)++(lX N.cells).map (·.out)) (by
     unfold bB;conv=>lhs;rw[hsp]
     simp only[Ez,mC,D1,dS])
    have hpk:=(hp.keep a1).sub (hk _ (sQ hcm));refine af hp fun es hes hes2=>?_;clear hp;refine bY (hes2 _ (hk _ (sQ hcm))) fun uu uu hlt=>?_;refine af (kO (v:=pat (.str (cr c.param))) a2 hx (kt (nat_lit 15291171849364335999817349879652800) tt hj hsl hcc hsrl)) fun o o1 o2=>?_;have a3':=a3.upd hx hlt;have hss:=lB (h:=h) (kM g c hcm);refine⟨[DJ (.ref (L+1)),DJ (.ref pa),DJ (.int full),DJ (.ref H.length),x,y,z,DJ c.v,none,none,none],rfl,?_⟩;have hkey:aC cl (.sub (.loc 1) (.sub (.sub (.loc 7) (.const (.int 3))) (.neg (.const (.int 2))))) [DJ (.ref (L+1)),DJ (.ref pa),DJ (.int full),DJ (.ref H.length),x,y,z,DJ c.v,none,none,none] [] h=DJ (.int (pat (.str (cr c.param)):Nat),h):=jZ (x:= .ref pa) (y:= .str (cr c.param)) (h1:=h) (h2:=h) rfl (by unfold aj.v;simp only[bd,aB,aU,tN,bD,cQ,tP,oB,hss]) hpk;refine bk (x:= .ref H.length) (y:= .int c.out) (h2:=h) (h3:=h) hkey rfl (by unfold aj.v;simp only[bd,aB,aU,bD,cQ,nK,oB]) o1 (aN ⟨by simp,⟨_,rfl⟩,a1.set (DV _),?_,mY W c.out (pat (.str (cr c.param))),?_,?_⟩)
    ·refine yF (gN (by with_unfolding_all exact D4 (bS (nat_lit 12129358850082) tt hltd b3))) ?_;exact a4
    ·refine yF htk ?_;refine yF Ez ?_;refine yB (D1 _ _ _) ?_;exact o2
    ·refine yF htk ?_;refine yF Ez ?_;refine yB (D1 _ _ _) ?_;refine⟨a3'.z,a3'.o,a3'.i,fun d hd=> ?_,a3'.c,a3'.lt⟩;rw[DZ,DT]at hd;rcases hd with hd | rfl
     ·exact a3'.s d hd
     ·exact⟨by simp,lE⟩
   ·intro m h z3;refine eQ z3 fun z100 a1 a4 z115=>?_;clear z3;refine aq z100 fun w z161=>?_;clear z100;subst z161;refine af z115 fun W a2 a3=>?_;clear z115;rw[DR,Ef]at a2;rw[DR,Ef]at a3;change aY h H.length (fW (bB N) W) _ at a2;change WS N pat rows W (bB N) N.inputs.length (eh N.cells) []at a3;have hltd:=a2.lt;have q1:=q.keep a1;have at1:=q1.attr;refine aq (gc (cl:=cl) (m:=[DJ (.ref (L+1)),DJ (.ref pa),DJ (.int full),DJ (.ref H.length),x,y,z,w,none,none,none]) (c:=[]) (h:=h) (h1:=h) (rng:=false) (it:= .attr (.loc 0) fZ) (t:= .cmp .notIn (.sub (.loc 0) (.const (.int 0))) (.list [(.const (.str ft)),(.const (.str dL))])) (x:= .ref (L+4)) N.cells aj.v (gd:=DJ (L+4,.list (N.cells.map aj.v))) (fun c=> !bh c.kind) (by simp only[aB,cV,oB,at1]) (aF _ _ _ q1.cel) (DO hcc (by decide)) (fun T=>by unfold av;simp[fN T q1.cel]) (fun a ha T=>by
     refine⟨T++[.list ([ft,dL].map .str)],.bool (!bh a.kind),?_,rfl⟩;refine yB (D1 _ _ _) ?_;refine yB (sK _) ?_;exact ue (by unfold aj.v;simp only[bd,qG,bD,cQ,iW,oB]) rfl)) fun T hleft=>?_
    change aC cl _ _ _ h=DJ (.ref (h++T).length,(h++T)++[.list ((lX N.cells).map aj.v)]) at hleft;have k1:ai h ((h++T)++[.list ((lX N.cells).map aj.v)]):=(ai.push _ _).trans (ai.push _ _);have gl:((h++T)++[AO.list ((lX N.cells).map aj.v)])[(h++T).length]? =DJ (.list ((lX N.cells).map aj.v)):=au;have hla:H.length<(h++T).length:=by simp;exact bS (nat_lit 386615225376) tt hltd
    refine ac (m1:=[DJ (.ref (L+1)),DJ (.ref pa),DJ (.int full),DJ (.ref H.length),x,y,z,w,DJ (.ref (h++T).length),none,none]) hleft rfl ?_;have a1:=a1.trans k1;have a2:=a2.keep k1;generalize (h++T)++[AO.list ((lX N.cells).map aj.v)]=h2 at *;generalize (h++T).length=la at *;clear hleft k1 a4 q1 at1;have hcbl:(lX N.cells).length<=20:=DO (EI _ _) hcc;let St4:Nat->aZ->Hp->Prop:=fun pp m h=>(∃ w la u v,m=[DJ (.ref (L+1)),DJ (.ref pa),DJ (.int full),DJ (.ref H.length),x,y,z,w,DJ (.ref la),u,v]/\H.length<la/\∃ left D W,h[la]? =DJ (.list (left.map aj.v))/\left.length<=(lX N.cells).length - pp/\(D++left).Perm (lX N.cells)/\aY h H.length (fW (bB N++D.map (·.out)) W) ((bB N).length+D.length)/\WS N pat rows W (bB N++D.map (·.out)) N.inputs.length (eh N.cells) D)/\ai H h
    refine da (n:=(lX N.cells).length) (h1:=h2) St4
     (by simp only[aB,aU,cO,aw,aA,oB,dc gl,DR]) (DO hcbl (by decide)) ⟨⟨w,la,none,none,rfl,hla,lX N.cells,[],W,gl,bu (nat_lit 344681887776) tt (Bd _ _),KP _,by
      simp only[mN,EC,Et,JH];have:(bB N).length=(bq N).length+(eh N.cells).length:=by unfold bB;refine DK DU ?_;refine yF (DR _) ?_;rfl
      refine yF this ?_;exact a2,by simpa using a3⟩,a1⟩ ?_ ?_
    ·clear a1 a2 a3 gl hla;intro pp m h hpp z5;refine am z5 fun z160 a1=>?_;clear z5;refine wN z160 fun w la u v z224 hla z235=>?_;clear z160;subst z224;refine iC z235 fun left D W gl hll hperm a2 a3=>?_;clear z235;refine⟨[DJ (.ref (L+1)),DJ (.ref pa),DJ (.int full),DJ (.ref H.length),x,y,z,w,DJ (.ref la),DJ (.int pp),v],rfl,?_⟩;refine ac (v:= .ref h.length) (h1:=h++[.list []]) (m1:=[DJ (.ref (L+1)),DJ (.ref pa),DJ (.int full),DJ (.ref H.length),x,y,z,w,DJ (.ref la),DJ (.int pp),DJ (.ref h.length)]) rfl rfl ?_;have k2:=ai.push h [.list []];have ga:(h++[AO.list []])[h.length]? =DJ (.list []):=au;have hla2:=(gS.mp gl).1;have a1:=a1.trans k2;have a2:=a2.keep k2;have gl:=k2 _ _ gl;generalize hag:h.length=ag at *;generalize h++[AO.list []]=h3 at *;clear k2;have hDl:D.length+left.length=(lX N.cells).length:=by have:=hperm.length_eq;rw[DU]at this;exact this
     have hsol:(bB N).length<=28:=by unfold bB;rewrite[DU,DR];exact bS (nat_lit 13483688053197081127883727296) tt hsl hcc hsrl
     let St5:Nat->aZ->Hp->Prop:=fun k m h=>(∃ w,m=[DJ (.ref (L+1)),DJ (.ref pa),DJ (.int full),DJ (.ref H.length),x,y,z,w,DJ (.ref la),DJ (.int pp),DJ (.ref ag)])/\ai H h/\h[la]? =DJ (.list (left.map aj.v))/\∃ ags D' W',h[ag]? =DJ (.list (ags.map aj.v))/\(D'++ags++left.drop k).Perm (lX N.cells)/\aY h H.length (fW (bB N++D'.map (·.out)) W') ((bB N).length+D'.length)/\WS N pat rows W' (bB N++D'.map (·.out)) N.inputs.length (eh N.cells) D'/\((D'=D/\ags=left.take k/\∀ c∈left.take k,¬ ∀ y∈c.ins,y∈bB N++D.map (·.out))\/ags.length<k)
     refine dM (x:= .ref la) (vs:=left.map aj.v) (gd:=DJ (la,.list (left.map aj.v))) (h1:=h3) St5
      rfl (aF _ _ _ gl) ⟨⟨w,rfl⟩,a1,gl,[],D,W,ga,by simpa using hperm,a2,a3,Ed ⟨rfl,rfl,by simp⟩⟩ (fun j m h _ s=>by unfold av;simp[s.2.2.1]) ?_ ?_
     ·clear a1 a2 a3 gl ga;intro k v m h hv z6;refine eQ z6 fun z190 a1 gl z205=>?_;clear z6;refine aq z190 fun w z251=>?_;clear z190;subst z251;refine iC z205 fun ags D' W' ga hperm' a2 a3 hprog=>?_;clear z205;have hk':=(gS.mp hv).1;rw[DR]at hk';have hck:left[k]? =DJ left[k]:=gE hk';rw[DX,hck]at hv;have hdk:left.drop k=left[k]::left.drop (k+1):=EO hk';have htk:=bn hck;have hcb:left[k]∈lX N.cells:=hperm.mem_iff.mp (Fj _ (Ey hk'));generalize left[k]=c at *;simp only[oM,D7]at hv;subst hv;have hcb2:=gq.mp hcb;have hok:=g.comb c hcb2.1 hcb2.2;have hil:=du hok;have hD'l:D'.length+ags.length+(left.length - k)=(lX N.cells).length:=by have:=hperm'.length_eq;rw[DU,DU,length_drop]at this;exact this
      refine⟨[DJ (.ref (L+1)),DJ (.ref pa),DJ (.int full),DJ (.ref H.length),x,y,z,DJ c.v,DJ (.ref la),DJ (.int pp),DJ (.ref ag)],rfl,?_⟩;have hcmp:=eN (cl:=cl) (rng:=false) (it:= .sub (.loc 7) (.const (.int 2))) (e:= .cmp .in_ (.loc 0) (.free 3)) (m:=[DJ (.ref (L+1)),DJ (.ref pa),DJ (.int full),DJ (.ref H.length),x,y,z,DJ c.v,DJ (.ref la),DJ (.int pp),DJ (.ref ag)]) (c:=[]) (h:=h) (h1:=h) c.ins AV.int (fun y=> .bool (decide (y∈bB N++D'.map (·.out)))) (x:= .tup (aa c.ins)) (gd:=none) (by unfold aj.v;simp only[bd,aB,aU,bD,cQ,qH,oB]) rfl rfl (dm (nat_lit 379283663310272) tt hil.2) (fun y hy=>by
       have:(fW (bB N++D'.map (·.out)) W' y).isSome=decide (y∈bB N++D'.map (·.out)):=by
        unfold fW;by_cases hq:y∈bB N++D'.map (·.out)
        ·simp only[hq,if_true,decide_true,G1]
        ·simp only[hq,if_false,decide_false,G0]
       simp only[qG,zO,zP,aK,kF,oB,a2.has,this])
      have hbl:c.ins.map (fun y=>AV.bool (decide (y∈bB N++D'.map (·.out))))=(c.ins.map fun y=>decide (y∈bB N++D'.map (·.out))).map AV.bool:=by rewrite[map_map];rfl
      rw[hbl]at hcmp;have hbo:=xL (cl:=cl) (x:=false) hcmp (bO _ _);have k3:=ai.push h [.list ((c.ins.map fun y=>decide (y∈bB N++D'.map (·.out))).map AV.bool)];have a1:=a1.trans k3;have a2:=a2.keep k3;have gl:=k3 _ _ gl;have ga:=k3 _ _ ga;clear k3 hcmp hbl;have hfalse:decide (false∈c.ins.map fun y=>decide (y∈bB N++D'.map (·.out)))= !decide (∀ y∈c.ins,y∈bB N++D'.map (·.out)):=by
       by_cases hq:∀ y∈c.ins,y∈bB N++D'.map (·.out)
       ·have:¬ false∈c.ins.map fun y=>decide (y∈bB N++D'.map (·.out)):=by
         intro hm;refine af (Es.mp hm) fun y hy e=>?_;have:=hq y hy;rw[decide_eq_false_iff_not]at e;exact e this
        rewrite[decide_eq_false this,decide_eq_true hq];rfl
       ·have:false∈c.ins.map fun y=>decide (y∈bB N++D'.map (·.out)):=by
         apply F6;intro hm;apply hq;intro y hy;apply F6;intro hn;exact hm (Es.mpr ⟨y,hy,decide_eq_false hn⟩)
        refine DK (decide_eq_true this) ?_;refine yF (decide_eq_false hq) ?_;rfl
      rw[hfalse]at hbo;generalize h++[AO.list ((c.ins.map fun y=>decide (y∈bB N++D'.map (·.out))).map AV.bool)]=h4 at *;refine cg (c:= !decide (∀ y∈c.ins,y∈bB N++D'.map (·.out))) (h1:=h4) (j0 hbo) ?_ ?_
      ·intro hc;have hc:¬ ∀ y∈c.ins,y∈bB N++D'.map (·.out):=by
        intro hq;rw[decide_eq_true hq]at hc;exact fT hc
       refine cZ (cK (a:=ag) (h1:=h4) (h2:=h4) (v:=c.v) rfl ga rfl ga (by refine yF (DR _) ?_;exact kt (nat_lit 417026798088956058503103939) tt hD'l hcbl)) (bz ⟨by simp,⟨_,rfl⟩,a1.set (bS (nat_lit 11029847223330) tt hla hla2),by refine yF (gN (Ep hla2)) ?_;exact gl,ags++[c],D',W',?_,?_,a2.other (Ep (bS (nat_lit 12129358851106) tt hla hla2)),a3,?_⟩)
       ·refine yF (bH _ _ _ (gS.mp ga).1) ?_;refine yF Ez ?_;rfl
       ·rw[hdk]at hperm';refine yB (D1 _ _ _) ?_;refine yF ((D1 (D'++ags)) _ _) ?_;exact hperm'
       ·rcases hprog with⟨e1,e2,e3⟩ | e
        ·left
         refine⟨e1,by (refine yF e2 ?_;refine yF htk ?_;rfl),fun d hd=> ?_⟩;rw[htk,DZ,DT]at hd;rcases hd with hd | rfl
         ·exact e3 d hd
         ·refine yB e1 ?_;exact hc
        ·right;simp;exact e
      ·intro hc;have hc:∀ y∈c.ins,y∈bB N++D'.map (·.out):=by
        apply F6;intro hq;rw[decide_eq_false hq]at hc;exact tF hc
       refine aq (htab h4 c.kind c.ins.length c.param hok) fun T2 ht2=>?_;have k4:=ai.push h4 T2;have b2:=a2.keep k4;have hcm2:=eN (cl:=cl) (rng:=false) (it:= .sub (.loc 7) (.const (.int 2))) (e:= .sub (.free 3) (.loc 0)) (m:=[DJ (.ref (L+1)),DJ (.ref pa),DJ (.int full),DJ (.ref H.length),x,y,z,DJ c.v,DJ (.ref la),DJ (.int pp),DJ (.ref ag)]) (c:=[]) (h:=h4++T2) (h1:=h4++T2) c.ins AV.int (fun y=> .int (W' y:Nat)) (x:= .tup (aa c.ins)) (gd:=none) (by unfold aj.v;simp only[bd,aB,aU,bD,cQ,qH,oB]) rfl rfl (dm (nat_lit 379283663310272) tt hil.2) (fun y hy=>by
        have:=b2.sub (x:=y) (y:=(W' y:Nat)) (by unfold fW;(refine yF (if_pos (hc y hy)) ?_;rfl));simp only[qG,zO,zP,bD,oB,this])
       have hnv:c.ins.map (fun y=>AV.int (W' y:Nat))=az (c.ins.map W'):=by unfold az;rewrite[map_map];rfl
       rw[hnv]at hcm2;have hwd:=hword ((h4++T2)++[.list (az (c.ins.map W'))]) (eJ c.kind c.param) (h4++T2).length (c.ins.map W') (bO _ _) (by refine yF (DR _) ?_;exact dm (nat_lit 364468587968) tt hil.2) (hw W' _ c.ins a3.lt hc);have k5:ai h4 ((h4++T2)++[.list (az (c.ins.map W'))]):=k4.trans (ai.push _ _);have a1:=a1.trans k5;have a2:=a2.keep k5;have gl:=k5 _ _ gl;have ga:=k5 _ _ ga;have hval:aC cl (.call 46 [(.call 41 [(.sub (.loc 7) (.const (.int 0))),(.sub (.loc 7) (.const (.int 3)))]),(.comp 1 (.one 0) false (.sub (.loc 7) (.const (.int 2))) (.elt (.sub (.free 3) (.loc 0)))),(.loc 2)]) [DJ (.ref (L+1)),DJ (.ref pa),DJ (.int full),DJ (.ref H.length),x,y,z,DJ c.v,DJ (.ref la),DJ (.int pp),DJ (.ref ag)] [] h4=DJ (.int (gW (eJ c.kind c.param) (c.ins.map W') full:Nat),(h4++T2)++[.list (az (c.ins.map W'))]):=
        aJ (aL (aJ (vs:=[.str c.kind,c.param]) (h1:=h4) (by unfold aj.v;simp only[bd,aB,aU,bD,aw,aA,cQ,iW,tP,oB]) ht2) (aL hcm2 (aL (v:= .int full) (h1:=(h4++T2)++[.list (az (c.ins.map W'))]) rfl dk))) hwd
       generalize (h4++T2)++[AO.list (az (c.ins.map W'))]=h5 at *;have hnd2:=g.nd2 (D:=D') (E:=c::(ags++left.drop (k+1))) (by
        refine Kt ?_ hperm';refine yF hdk ?_;refine yF (D1 _ _ _) ?_;exact F5 _ HV.symm)
       have hx:c.out∉bB N++D'.map (·.out):=iI hnd2 (q:=(ags++left.drop (k+1)).map (·.out)) (by (refine yF mC ?_;rfl));have hlt:gW (eJ c.kind c.param) (c.ins.map W') full<2 ^ rows:=by refine yB hfull ?_;exact sM
       refine af (kO (v:=gW (eJ c.kind c.param) (c.ins.map W') full) a2 hx (wK (nat_lit 15658159973750372559137360803569485248) tt hD'l hcbl hsol)) fun o o1 o2=>?_;have a3':=a3.upd hx hlt;refine bk (x:= .ref H.length) (y:= .int c.out) (h2:=h5) (h3:=h5) hval rfl (by unfold aj.v;simp only[bd,aB,aU,bD,cQ,nK,oB]) o1 (bz ⟨by simp,⟨_,rfl⟩,a1.set (DV _),by refine yF (gN (D4 hla)) ?_;exact gl,ags,D'++[c],mY W' c.out (gW (eJ c.kind c.param) (c.ins.map W') full),by refine yF (gN (by with_unfolding_all exact D4 (bS (nat_lit 12129358851106) tt hla hla2))) ?_;exact ga,?_,?_,?_,Ew ?_⟩)
       ·refine Kt ?_ hperm';refine yF hdk ?_;refine yF (D1 _ _ _) ?_;refine yF (D1 _ _ _) ?_;refine yF (D1 _ _ _) ?_;exact F5 _ (HV (a:=c) (l₁:=ags) (l₂:=left.drop (k+1))).symm
       ·refine yF Ez ?_;refine yB (D1 _ _ _) ?_;rewrite[DU,<- FO];exact o2
       ·refine yF Ez ?_;refine yB (D1 _ _ _) ?_;refine⟨a3'.z,a3'.o,a3'.i,a3'.s,fun d hd=> ?_,a3'.lt⟩;rw[DZ,DT]at hd;rcases hd with hd | rfl
        ·exact a3'.c d hd
        ·refine⟨by simp,fun y hy=>Fv _ (hc y hy),?_⟩;refine DK lE ?_;refine yF hfull ?_;congr 1;exact EX fun y hy=>(oq hx (hc y hy)).symm
       ·rcases hprog with⟨_,e2,_⟩ | e
        ·refine yF e2 ?_;refine yF EG ?_;exact bu (nat_lit 12388230244384) tt (EV _ _)
        ·exact Eg e
     ·intro m h z3;refine eQ z3 fun z100 a1 gl z115=>?_;clear z3;refine aq z100 fun w z161=>?_;clear z100;subst z161;refine iC z115 fun ags D' W' ga hperm' a2 a3 hprog=>?_;clear z115;rw[DR,drop_length,EC]at hperm';rw[DR]at hprog;have hlen:ags.length<=(lX N.cells).length - (pp+1):=by
       rcases hprog with⟨e1,e2,e3⟩ | e
       ·rw[Ef]at e2 e3;by_cases hle:left=[]
        ·refine yF e2 ?_;refine yF hle ?_;simp
        ·refine af (g.progress hperm hle) fun c hc hin=>?_;exact absurd hin (e3 c hc)
       ·lia
      refine ac (v:= .ref ag) (h1:=h) (m1:=[DJ (.ref (L+1)),DJ (.ref pa),DJ (.int full),DJ (.ref H.length),x,y,z,w,DJ (.ref ag),DJ (.int pp),DJ (.ref ag)]) rfl rfl (aN ⟨by simp,⟨w,ag,_,_,rfl,bS (nat_lit 12129358851106) tt hla hla2,ags,D',W',ga,hlen,hperm',a2,a3⟩,a1⟩)
    ·intro m h z3;refine am z3 fun z100 a1=>?_;clear z3;refine wN z100 fun w la u v z164 hla z175=>?_;clear z100;subst z164;refine iC z175 fun left D W gl hll hperm a2 a3=>?_;clear z175;have:left=[]:=by
      rw[EH]at hll;exact Gb.mp (Eo (dm (nat_lit 350235072) tt hll) (dm (nat_lit 10254) tt))
     subst this;rw[EC]at hperm;refine am (a3.sat hperm) fun f1 f2=>?_;exact bK (v:= .ref H.length) (h1:=h) rfl (Ed ⟨_,rfl,_,_,W,_,rfl,a1,a2,f1,f2⟩)
 exact⟨r,S,W,M,H',e,r1,r2,r3,r4⟩
theorem sR{g:AV->Option D}{f:α->D}:∀ (vs:List AV) (ps:List α),vs.length=ps.length->(∀ (i:Nat) (v:AV) (p:α),vs[i]? =DJ v->ps[i]? =DJ p->g v=DJ (f p))->vs.mapM g=DJ (ps.map f):=by
 intro vs;induction vs with
 | nil=>intro ps h _;cases ps with
  | nil=>rfl
  | cons p ps=>simp at h
 | cons v vs ih=>
  intro ps h hs;cases ps with
  | nil=>simp at h
  | cons p ps=>
   have h1:=hs 0 v p rfl rfl;have h2:=ih ps (by simpa using h) (fun i v p a b=>hs (i+1) v p (by simpa using a) (by simpa using b));refine DK Fg ?_;refine yF h1 ?_;refine yF h2 ?_;rfl
theorem ot{n:Nat}(l:List Nat):(az l).mapM (res h (n+1))=DJ (l.map fun (i:Nat)=>D.int i):=by
 induction l with
 | nil=>rfl
 | cons a l ih=>
  show ((AV.int a)::az l).mapM (res h (n+1))=_;refine DK Fg ?_;refine yF ih ?_;rfl
theorem dF(e:h[a]? =DJ (.list vs))(r:vs.mapM (res h n)=DJ ds):res h (n+1) (.ref a)=DJ (.list ds):=by
 dsimp only[res];simp only[e,r,oM]
theorem gu(r:vs.mapM (res h n)=DJ ds):res h (n+1) (.tup vs)=DJ (.tup ds):=by
 dsimp only[res];simp only[r,oM,oB]
theorem sS{g:AV->Option D}(h1:g a=DJ x)(h2:g b=DJ y):[a,b].mapM g=DJ [x,y]:=by
 refine DK Fg ?_;refine yF h1 ?_;refine yF Fg ?_;refine yF h2 ?_;rfl
theorem pX{g:AV->Option D}(h1:g a=DJ x)(h2:g b=DJ y)(h3:g c=DJ z):[a,b,c].mapM g=DJ [x,y,z]:=by
 refine DK Fg ?_;refine yF h1 ?_;refine yF (sS h2 h3) ?_;rfl
noncomputable def xM(p:jv):D:= .tup [.str p.1,.list (p.2.map D.int)]
theorem j5(q:cC h b vs ps)(e:h[r]? =DJ (.list vs)):res h (n+5) (.ref r)=DJ (.list (ps.map xM)):=by
 refine dF e (sR vs ps q.1 (fun i v p a c=> ?_));refine aM (q.2 i p c) fun x uu x2 x3=>?_;rw[a]at x2;refine jR x2 ?_;exact gu (sS (by rfl) (dF x3 (lg _)))
noncomputable def gX(h:Hp)(vs:List AV)(ps:List jv)(W:Int->Nat):Prop:=vs.length=ps.length/\∀ (j:Nat) (p:jv),ps[j]? =DJ p->∃ a,vs[j]? =DJ (.tup [.str p.1,.ref a])/\h[a]? =DJ (.list (az (p.2.map W)))
noncomputable def mQ(W:Int->Nat)(p:jv):D:= .tup [.str p.1,.list ((p.2.map W).map fun (i:Nat)=>D.int i)]
theorem gX.keep{W:Int->Nat}(q:gX h vs ps W)(k:ai h h'):gX h' vs ps W:=
 ⟨q.1,fun j p e=>by refine af (q.2 j p e) fun a b c=>?_;exact⟨a,b,k _ _ c⟩⟩
theorem ow{n r:Nat}{W:Int->Nat}(q:gX h vs ps W)(e:h[r]? =DJ (.list vs)):res h (n+5) (.ref r)=DJ (.list (ps.map (mQ W))):=by
 refine dF e (sR vs ps q.1 (fun i v p a c=> ?_));refine af (q.2 i p c) fun x x2 x3=>?_;rw[a]at x2;refine jR x2 ?_;exact gu (sS (by rfl) (dF x3 (ot _)))
theorem gX.snoc{a:Nat}{W:Int->Nat}(q:gX h vs ps W)(e:h[a]? =DJ (.list (az (p.2.map W)))):gX h (vs++[.tup [.str p.1,.ref a]]) (ps++[p]) W:=by
 refine⟨by simp[q.1],fun j p' e'=> ?_⟩;by_cases hj:j<ps.length
 ·rw[Eh hj]at e';refine af (q.2 j p' e') fun a' y z=>?_;exact⟨a',by (rewrite[Eh (by have:=q.1;exact bS (nat_lit 12129358853185) tt hj this)]);exact y,z⟩
 ·have hl:=(gS.mp e').1;rw[DU,Ex]at hl;have:j=ps.length:=Eo (bu (nat_lit 11029854074912) tt hl) (bu (nat_lit 336603168) tt (E6 hj));subst this;rw[D9 (DV _),EH]at e';refine jA e' ?_;exact⟨a,by (rewrite[<- q.1];refine DK (D9 (DV _)) ?_;refine yF (EH _) ?_);rfl,e⟩
noncomputable def dW(h:Hp)(es:List (AV × AV))(l:List aj)(W:Int->Nat):Prop:=es.length=l.length/\∀ (j:Nat) (c:aj),l[j]? =DJ c->∃ a,es[j]? =DJ (.str (cr c.param),.tup [.str c.kind,c.param,.ref a])/\h[a]? =DJ (.list (az (c.ins.map W)))
theorem dW.keep{W:Int->Nat}(q:dW h es l W)(k:ai h h'):dW h' es l W:=
 ⟨q.1,fun j p e=>by refine af (q.2 j p e) fun a b c=>?_;exact⟨a,b,k _ _ c⟩⟩
theorem dW.snoc{a:Nat}{W:Int->Nat}(q:dW h es l W)(e:h[a]? =DJ (.list (az (c.ins.map W)))):dW h (es++[(.str (cr c.param),.tup [.str c.kind,c.param,.ref a])]) (l++[c]) W:=by
 refine⟨by simp[q.1],fun j p' e'=> ?_⟩;by_cases hj:j<l.length
 ·rw[Eh hj]at e';refine af (q.2 j p' e') fun a' y z=>?_;exact⟨a',by (rewrite[Eh (by have:=q.1;exact bS (nat_lit 12129358853185) tt hj this)]);exact y,z⟩
 ·have hl:=(gS.mp e').1;rw[DU,Ex]at hl;have:j=l.length:=Eo (bu (nat_lit 11029854074912) tt hl) (bu (nat_lit 336603168) tt (E6 hj));subst this;rw[D9 (DV _),EH]at e';refine jA e' ?_;exact⟨a,by (rewrite[<- q.1];refine DK (D9 (DV _)) ?_;refine yF (EH _) ?_);rfl,e⟩
theorem BF(h:br es k=none):dz es k v=es++[(k,v)]:=by
 induction es with
 | nil=>rfl
 | cons p r ih=>
  obtain⟨a,x⟩:=p;rewrite[dC]at h;rewrite[ke];split at h
  ·exact oN h
  ·rename_i hne;refine DK (if_neg hne) ?_;refine yF (ih h) ?_;rfl
theorem AC(h:∀ p∈es,p.1≠k):br es k=none:=by
 induction es with
 | nil=>rfl
 | cons p r ih=>
  obtain⟨a,x⟩:=p;rewrite[dC];refine yF (if_neg (h (a,x) (by simp))) ?_;exact ih fun p hp=>h p (by simp[hp])
theorem sT:∀ {es:List (AV × AV)} {k v:AV} {j:Nat},es[j]? =DJ (k,v)->(∀ i p,i<j->es[i]? =DJ p->p.1≠k)->br es k=DJ v
 | [],k,v,j,h,_=>by simp at h
 | (a,x)::r,k,v,0,h,_=>by
  simp at h;refine am h fun z1 z2=>?_;clear h;subst z1;subst z2;rewrite[dC];refine DK (if_pos rfl) ?_;rfl
 | (a,x)::r,k,v,j+1,h,hn=>by
  rewrite[dC];refine yF (if_neg (hn 0 (a,x) (L0 _) rfl)) ?_;exact sT (j:=j) (by simpa using h) (fun i p hi e=>hn (i+1) p (bu (nat_lit 405937537486433312) tt hi) (by simpa using e))
theorem pY{l:List Nm}(hn:l.Nodup){i j:Nat}{x:Nm}(h1:l[i]? =DJ x)(h2:l[j]? =DJ x):i=j:=by
 refine aq (gS.mp h1) fun a1 b1=>?_;refine aq (gS.mp h2) fun a2 b2=>?_;have hn:=H6.mp hn;apply F6;intro hij;rcases Nat.lt_or_gt_of_ne hij with q | q
 ·exact hn i j a1 a2 q (b1.trans b2.symm)
 ·exact hn j i a2 a1 q (b2.trans b1.symm)
theorem dW.find{h:Hp}{es:List (AV × AV)}{l:List aj}{W:Int->Nat}(q:dW h es l W)(hn:(l.map fun c=>cr c.param).Nodup){c:aj}(hc:c∈l):∃ a,br es (.str (cr c.param))=DJ (.tup [.str c.kind,c.param,.ref a])/\h[a]? =DJ (.list (az (c.ins.map W))):=by
 refine aq (FJ hc) fun j hj=>?_;refine af (q.2 j c hj) fun a b d=>?_;refine⟨a,sT b (fun i p hi e=> ?_),d⟩;have hil:=(gS.mp e).1;rw[q.1]at hil;refine af (q.2 i _ (gE hil)) fun a' b' uu=>?_;rw[e]at b';refine jR b' ?_;intro heq;injection heq with heq;have hjl:=(gS.mp hj).1;have h1:(l.map fun c=>cr c.param)[i]? =DJ (cr l[i].param):=by (refine DK DX ?_;refine yF (gE hil) ?_);rfl
 have h2:(l.map fun c=>cr c.param)[j]? =DJ (cr c.param):=by (refine DK DX ?_;refine yF hj ?_);rfl
 have hij:=pY hn h1 (by (refine DK h2 ?_;refine yF heq ?_;rfl));exact Gc 0 (bu (nat_lit 12591066788896) tt hi hij)
theorem pZ{r M:Nat}{S:List Int}{W:Int->Nat}{l:List Int}{gd:Option (Nat × AO)}(d:aY h r (fW S W) M)(l3:∀ h,ek m 3 h=DJ (.ref r,h))(e1:aC cl it m c h=DJ (x,h))(e2:bZ h false x=DJ (aa l,gd))(hg:av h gd=true)(hl:l.length<=100)(hS:∀ y∈l,y∈S):
  aC cl (.comp 1 (.one 0) false it (.elt (.bm .get (.free 3) [(.loc 0),(.neg (.const (.int 1)))]))) m c h=DJ (.ref h.length,h++[.list (az (l.map W))]):=by
 have:=eN (cl:=cl) (rng:=false) (it:=it) (e:= .bm .get (.free 3) [(.loc 0),(.neg (.const (.int 1)))]) (m:=m) (c:=c) (h:=h) (h1:=h) l AV.int (fun y=> .int (W y:Nat)) e1 e2 hg (DO hl (by decide)) (fun y hy=>by
  have hg2:=d.get y (-1);have hf:(fW S W y).getD (-1)=(W y:Nat):=by unfold fW;refine yF (if_pos (hS y hy)) ?_;rfl
  rw[hf]at hg2;simp only[qG,tN,mj,aw,aA,oB,if_true,bW,bx,l3,oB,oM,d.ok,if_true,hg2])
 refine DK this ?_;unfold az;refine yF map_map ?_;rfl
theorem u6{n L pa rows:Nat}{N:NL}{H:Hp}{pat:AV->Nat}{ks:List AV}(q:aI H L N)(g:cn N)(hp:ji H pa pat ks rows)(hk:∀ k∈de N,k∈ks):∃ a b vs es W H',ad P 1000 (n+4) 48 [.ref (L+1),.ref pa,.int (2 ^ rows - 1:Nat)] H=DJ (.tup [.ref a,.ref b],H')/\ai H H'/\H'[a]? =DJ (.list vs)/\gX H' vs N.outputs W/\H'[b]? =DJ (.dict es)/\dW H' es (eh N.cells) W/\jk N pat rows W:=by
 obtain⟨v,H',e,a,b,vs,es,W,rfl,r⟩:∃ v H',ad P 1000 (n+4) 48 [.ref (L+1),.ref pa,.int (2 ^ rows - 1:Nat)] H=DJ (v,H')/\∃ a b vs es W,v= .tup [.ref a,.ref b]/\ai H H'/\H'[a]? =DJ (.list vs)/\gX H' vs N.outputs W/\H'[b]? =DJ (.dict es)/\dW H' es (eh N.cells) W/\jk N pat rows W:=by
  let Q0:AV->Hp->Prop:=fun v H'=>∃ a b vs es W,v= .tup [.ref a,.ref b]/\ai H H'/\H'[a]? =DJ (.list vs)/\gX H' vs N.outputs W/\H'[b]? =DJ (.dict es)/\dW H' es (eh N.cells) W/\jk N pat rows W
  refine bQ (Q:=Q0) (fn:=jr) rfl rfl ?_;unfold jr;refine eT (zh (n:=n) q g hp hk) fun r S W M z16=>?_;refine kZ z16 fun h0 w1 w2 w3 w4 w5=>?_;clear z16;have hst:=fun (H:Hp) (q:aI H L N)=>lA (W:=1000) (n:=n+2) q (by have:=g.small.cc;exact DO this (by decide));simp only[FO,Nat.reduceAdd]at hst;generalize ad P 1000 (n+3)=cl at *;generalize 2 ^ rows - 1=full at *;simp only[mN,mC,dR,dS,DY,Ee,Nat.reduceSub,As];have hcc:=g.small.cc;have hsl:=lC N.cells;have hco:=g.small.co;refine ac (v:= .ref r) (h1:=h0) (m1:=[DJ (.ref (L+1)),DJ (.ref pa),DJ (.int full),DJ (.ref r),none,none,none]) (aJ (vs:=[.ref (L+1),.ref pa,.int full]) (h1:=H) rfl w1) rfl ?_;have q0:=q.keep w2;have at0:=q0.attr;refine af q0.outp fun vo o1 o2=>?_;refine dH (j3 (cl:=cl) (k:=2) (t:= .many [0,1]) (rng:=false) (it:= .attr (.loc 0) el) (g:= .elt (.tup [(.loc 0),(.comp 1 (.one 0) false (.loc 1) (.elt (.bm .get (.free 3) [(.loc 0),(.neg (.const (.int 1)))])))])) (m:=[DJ (.ref (L+1)),DJ (.ref pa),DJ (.int full),DJ (.ref r),none,none,none]) (c:=[]) (h:=h0) (h1:=h0) (x:= .ref (L+3)) (vs:=vo) (gd:=DJ (L+3,.list vo))
   (fun j c h acc=>(∃ x y,c=[x,y])/\ai h0 h/\gX h acc (N.outputs.take j) W) (by simp only[aB,cV,oB,at0]) (aF _ _ _ o1) ⟨⟨none,none,rfl⟩,ai.refl _,rfl,fun j p e=>by simp at e⟩ (fun j c h acc s=>by unfold av;simp[s.2.1 _ _ o1])
   (fun j v c h acc hv s=>by
    refine bY s fun z1 s1 s2=>?_;clear s;refine eR z1 fun x y z63=>?_;clear z1;subst z63;have hj:=(gS.mp hv).1;rw[o2.1]at hj;refine aM (o2.2 j _ (gE hj)) fun a b1 b2 b3=>?_;have ht:N.outputs.take (j+1)=N.outputs.take j++[N.outputs[j]]:=by (refine DK E1 ?_;refine yF (gE hj) ?_);rfl
    have hpl:=g.small.po _ (Ey hj);have hdr:∀ x∈N.outputs[j].2,x∈S:=fun x hx=>w5 x (g.drvO x (G3.mpr ⟨_,Ey hj,hx⟩));generalize N.outputs[j]=p at *;rw[hv]at b2;revert hv;refine jR b2 ?_;intro hv;have b4:=s1 _ _ b3;have hc:=pZ (cl:=cl) (m:=[DJ (.ref (L+1)),DJ (.ref pa),DJ (.int full),DJ (.ref r),none,none,none]) (c:=[DJ (.str p.1),DJ (.ref a)]) (it:= .loc 1) (w3.keep s1) (fun h=>rfl) rfl (aF _ _ _ b4) (by unfold av;simp[b4]) (DO hpl (by decide)) hdr;refine⟨[DJ (.str p.1),DJ (.ref a)],_,_,_,rfl,j4 (ng (aL (v:= .str p.1) (h1:=h) rfl (aL hc dk))) (by (rewrite[s2.1];refine yF EG ?_);exact bu (nat_lit 397707746519445816769) tt (EE _ _) hco),⟨_,_,rfl⟩,s1.snoc _,?_⟩;refine yF ht ?_;exact (s2.keep (ai.push h _)).snoc au)) fun c' h1 acc e1 uu s2 s3=>?_
  rw[o2.1,Ef]at s3;refine ac (m1:=[DJ (.ref (L+1)),DJ (.ref pa),DJ (.int full),DJ (.ref r),DJ (.ref h1.length),none,none]) e1 rfl ?_;have k1:ai h0 (h1++[.list acc]):=s2.snoc _;have s4:=s3.keep (ai.push h1 [.list acc]);have g1:(h1++[AO.list acc])[h1.length]? =DJ (.list acc):=au;generalize h1.length=pr at *;generalize h1++[AO.list acc]=h2 at *;refine ac (v:= .ref h2.length) (h1:=h2++[.dict []]) (m1:=[DJ (.ref (L+1)),DJ (.ref pa),DJ (.int full),DJ (.ref r),DJ (.ref pr),DJ (.ref h2.length),none]) rfl rfl ?_;have k2:=ai.push h2 [.dict []];have k3:=k1.trans k2;have d3:(h2++[AO.dict []])[h2.length]? =DJ (.dict []):=au;have hsd:h2.length<(h2++[AO.dict []]).length:=by simp
  have kk:ai h2 (h2++[AO.dict []]):=k2;generalize hsdd:h2.length=sd at *;generalize h2++[AO.dict []]=h3 at *;refine cp (hst h3 (q0.keep k3)) fun sa h4 b1 b2 b3 b4=>?_;let St1:Nat->aZ->Hp->Prop:=fun j m h=>(∃ w,m=[DJ (.ref (L+1)),DJ (.ref pa),DJ (.int full),DJ (.ref r),DJ (.ref pr),DJ (.ref sd),w])/\ai h2 h/\h[sa]? =DJ (.list ((eh N.cells).map aj.v))/\∃ es,h[sd]? =DJ (.dict es)/\dW h es ((eh N.cells).take j) W
  refine dM (x:= .ref sa) (vs:=(eh N.cells).map aj.v) (gd:=DJ (sa,.list ((eh N.cells).map aj.v))) (h1:=h4) St1
   (aJ (vs:=[.ref (L+1)]) (h1:=h3) rfl b1) (aF _ _ _ b4) ⟨⟨none,rfl⟩,kk.trans b2,b4,[],b2 _ _ d3,rfl,fun j c e=>by simp at e⟩ (fun j m h _ s=>by unfold av;simp[s.2.2.1]) ?_ ?_
  ·intro j v m h hv z6;refine eQ z6 fun z190 a1 a2 z205=>?_;clear z6;refine aq z190 fun w z251=>?_;clear z190;subst z251;refine af z205 fun es a3 a4=>?_;clear z205;have hj:=(gS.mp hv).1;rw[DR]at hj;have hcj:(eh N.cells)[j]? =DJ (eh N.cells)[j]:=gE hj;rw[DX,hcj]at hv;have hcm:=Ey hj;have htk:=bn hcj;have hnm:∀ c∈(eh N.cells).take j,cr c.param≠cr (eh N.cells)[j].param:=by
    intro c hc e;refine aq (FJ hc) fun i hi=>?_;have hil:=(gS.mp hi).1;rw[EG]at hil;rw[Gy (by exact bS (nat_lit 12129358850082) tt hil (EV _ _))]at hi;have h1:(bf N.cells)[i]? =DJ (cr c.param):=by (dsimp only[dO];refine DK DX ?_;refine yF hi ?_);rfl
    have h2:(bf N.cells)[j]? =DJ (cr c.param):=by (dsimp only[dO];refine DK DX ?_;refine yF hcj ?_;refine yF e ?_);rfl
    have:=pY g.nmz h1 h2;exact Gc 0 (bS (nat_lit 412584076438975552) tt hil (EV _ _) this)
   generalize (eh N.cells)[j]=c at *;simp only[oM,D7]at hv;subst hv;have hil:=sJ (kM g c hcm);have hss:=lB (kM g c hcm) (h:=h);have hdr:∀ x∈c.ins,x∈S:=fun x hx=>w5 x (g.drv c (gr.mp hcm).1 x hx);refine⟨[DJ (.ref (L+1)),DJ (.ref pa),DJ (.int full),DJ (.ref r),DJ (.ref pr),DJ (.ref sd),DJ c.v],rfl,?_⟩;have hc:=pZ (cl:=cl) (m:=[DJ (.ref (L+1)),DJ (.ref pa),DJ (.int full),DJ (.ref r),DJ (.ref pr),DJ (.ref sd),DJ c.v]) (c:=[]) (it:= .sub (.loc 6) (.const (.int 2))) (h:=h) (x:= .tup (aa c.ins)) (w3.keep (k1.trans a1)) (fun h=>rfl) (by unfold aj.v;simp only[bd,aB,aU,bD,cQ,qH,oB]) rfl rfl (dm (nat_lit 11706403541440) tt hil) hdr;have a3':=ai.push h [.list (az (c.ins.map W))] _ _ a3;have hss2:=lB (kM g c hcm) (h:=h++[.list (az (c.ins.map W))]);have hfind:br es (.str (cr c.param))=none:=AC (fun p hp e=>by
    refine aq (FJ hp) fun i hi=>?_;have hl:=(gS.mp hi).1;rw[a4.1]at hl;refine af (a4.2 i _ (gE hl)) fun a' e1 uu=>?_;rw[hi]at e1;revert e;refine jR e1 ?_;intro e;injection e with e;exact hnm _ (Ey hl) e)
   refine bk (v:= .tup [.str c.kind,c.param,.ref h.length]) (x:= .ref sd) (y:= .str (cr c.param)) (h1:=h++[.list (az (c.ins.map W))]) (h2:=h++[.list (az (c.ins.map W))]) (h3:=h++[.list (az (c.ins.map W))]) (h4:=(h++[AO.list (az (c.ins.map W))]).set sd (AO.dict (es++[(.str (cr c.param),.tup [.str c.kind,c.param,.ref h.length])])))
    (ng (aL (v:= .str c.kind) (h1:=h) (by unfold aj.v;simp only[bd,aB,aU,bD,cQ,iW,oB]) (aL (v:=c.param) (h1:=h) (by unfold aj.v;simp only[bd,aB,aU,bD,cQ,tP,oB]) (aL hc dk)))) rfl (by
     have:aC cl (.sub (.loc 6) (.const (.int 3))) [DJ (.ref (L+1)),DJ (.ref pa),DJ (.int full),DJ (.ref r),DJ (.ref pr),DJ (.ref sd),DJ c.v] [] (h++[.list (az (c.ins.map W))])=DJ (c.param,h++[.list (az (c.ins.map W))]):=by unfold aj.v;simp only[bd,aB,aU,bD,cQ,tP,oB]
     have h2':aC cl (.neg (.const (.int 2))) [DJ (.ref (L+1)),DJ (.ref pa),DJ (.int full),DJ (.ref r),DJ (.ref pr),DJ (.ref sd),DJ c.v] [] (h++[.list (az (c.ins.map W))])=DJ (.int (-2),h++[.list (az (c.ins.map W))]):=rfl;exact jZ this h2' hss2) (by
     simp only[sh,a3'];rw[if_pos ⟨rfl,Ek (G8 a4.1) (aV (by refine yF EG ?_;exact bS (nat_lit 13032087437949180656108994) tt (EE _ _) hsl hcc))⟩,BF hfind]) (aN ⟨by simp,⟨_,rfl⟩,?_,?_,_,bH _ _ _ (gS.mp a3').1,?_⟩)
   ·exact (a1.snoc _).set (bu (nat_lit 336605216) tt hsdd)
   ·have:sd≠sa:=by intro e;rw[e,a2]at a3;exact nomatch a3
    refine yF (gN this) ?_;exact ai.push _ _ _ _ a2
   ·refine yF htk ?_;have hsl2:=(gS.mp a3).1;have key:∀ (b:Nat) (l:List AV),(h++[AO.list (az (c.ins.map W))])[b]? =DJ (AO.list l)->((h++[AO.list (az (c.ins.map W))]).set sd (AO.dict (es++[(.str (cr c.param),.tup [.str c.kind,c.param,.ref h.length])])))[b]? =DJ (AO.list l):=by
     intro b l hb;rewrite[gN]
     ·exact hb
     ·intro e;rw[<- e,a3']at hb;exact nomatch hb
    refine dW.snoc ⟨a4.1,fun i c' hc'=> ?_⟩ (key _ _ au);refine af (a4.2 i c' hc') fun a' e1 e2=>?_;exact⟨a',e1,key _ _ (ai.push _ _ _ _ e2)⟩
  ·intro m h z3;refine eQ z3 fun z100 a1 a2 z115=>?_;clear z3;refine aq z100 fun w z161=>?_;clear z100;subst z161;refine af z115 fun es a3 a4=>?_;clear z115;rw[DR,Ef]at a4;exact bK (v:= .tup [.ref pr,.ref sd]) (h1:=h) rfl (Ed ⟨_,rfl,pr,sd,acc,es,W,rfl,(w2.trans k1).trans a1,a1 _ _ g1,s4.keep a1,a3,a4,w4⟩)
 exact⟨a,b,vs,es,W,H',e,r⟩
theorem p0:∀ (es:List E),es≠[]->(∀ e∈es,aC cl e m c h=DJ (.bool false,h))->yN cl false es m c h=DJ (.bool false,h)
 | [],hn,_=>absurd rfl hn
 | [e],_,hs=>hs e (by simp)
 | e::f::es,_,hs=>by
  exact bs (hs e (by simp)) (p0 (f::es) (by simp) (fun x hx=>hs x (by simp at hx ⊢;exact Ew hx)))
theorem rg(hn:es≠[])(hs:∀ e∈es,aC cl e m c h=DJ (.bool false,h)):aC cl (.bop false es) m c h=DJ (.bool false,h):=by
 exact p0 es hn hs
theorem lF{x:Bool}(h1:aC cl a m c h=DJ (.bool true,h))(h2:aC cl b m c h=DJ (.bool x,h)):aC cl (.bop true [a,b]) m c h=DJ (.bool x,h):=by
 exact bs h1 h2
theorem ox(h1:aC cl a m c h=DJ (.bool false,h)):aC cl (.bop true [a,b]) m c h=DJ (.bool false,h):=by
 exact bs h1 rfl
theorem mw(h1:res h dn a=DJ x)(h2:res h dn b=DJ y)(e:x=y):rZ h a b=DJ true:=by
 exact bs h1 (by (refine yF h2 ?_;refine yF e ?_);exact congrArg DJ (decide_eq_true rfl))
structure AD(No Nn:NL)(W W':Int->Nat):Prop where
 o:(Nn.outputs.map (mQ W'))=(No.outputs.map (mQ W))
 i:Nn.inputs=No.inputs
 n:Nn.name=No.name
 s:∀ c'∈eh Nn.cells,∃ c∈eh No.cells,cr c.param=cr c'.param/\c.kind=c'.kind/\c.param=c'.param/\c.ins.map W=c'.ins.map W'
theorem p8(ok:lp k l p):∃ d,res h (n+2) p=DJ d:=by
 cases ok with
 | flop e i nm=>exact ⟨_,gu (pX (by rfl) (by rfl) (by rfl))⟩
 | latch i nm=>exact ⟨_,gu (sS (by rfl) (by rfl))⟩
theorem AE{pat:AV->Nat}(qo:aI H Lo No)(qn:aI H Ln Nn)(go:cn No)(gn:cn Nn)(hp:ji H pa pat ks rows)(hko:∀ k∈de No,k∈ks)(hkn:∀ k∈de Nn,k∈ks)
  (hk:∀ W W',jk No pat rows W->jk Nn pat rows W'->AD No Nn W W'):∃ H',ad P 1000 (n+5) 49 [.ref (Lo+1),.ref (Ln+1),.ref pa,.int (2 ^ rows - 1:Nat)] H=DJ (.bool true,H')/\ai H H':=by
 obtain⟨v,H',e,rfl,r⟩:∃ v H',ad P 1000 (n+5) 49 [.ref (Lo+1),.ref (Ln+1),.ref pa,.int (2 ^ rows - 1:Nat)] H=DJ (v,H')/\v= .bool true/\ai H H':=by
  let Q0:AV->Hp->Prop:=fun v H'=>v= .bool true/\ai H H'
  refine bQ (Q:=Q0) (fn:=kD) rfl rfl ?_;unfold kD;refine eT (u6 (n:=n) qo go hp hko) fun a b vs es z16=>?_;refine Aa z16 fun W h1 a1 a2 a3 a4 a5 a6 a7=>?_;clear z16;refine eT (u6 (n:=n) (qn.keep a2) gn (hp.keep a2) hkn) fun a' b' vs' es' z16=>?_;refine Aa z16 fun W' h2 b1 b2 b3 b4 b5 b6 b7=>?_;clear z16;have kp:=hk W W' a7 b7;generalize ad P 1000 (n+4)=cl at *;generalize 2 ^ rows - 1=full at *;simp only[mN,mC,dR,dS,DY,Ee,Nat.reduceSub,CH,zS];refine ac (v:= .tup [.ref a,.ref b]) (h1:=h1) (m1:=[DJ (.ref (Lo+1)),DJ (.ref (Ln+1)),DJ (.ref pa),DJ (.int full),DJ (.ref a),DJ (.ref b),none,none]) (aJ (vs:=[.ref (Lo+1),.ref pa,.int full]) (h1:=H) rfl a1) rfl ?_;refine ac (v:= .tup [.ref a',.ref b']) (h1:=h2) (m1:=[DJ (.ref (Lo+1)),DJ (.ref (Ln+1)),DJ (.ref pa),DJ (.int full),DJ (.ref a),DJ (.ref b),DJ (.ref a'),DJ (.ref b')]) (aJ (vs:=[.ref (Ln+1),.ref pa,.int full]) (h1:=h1) rfl b1) rfl ?_;have qo2:=(qo.keep a2).keep b2;have qn2:=(qn.keep a2).keep b2;have ato:=qo2.attr;have atn:=qn2.attr;refine af qo2.inp fun vo o1 o2=>?_;refine af qn2.inp fun vn n1 n2=>?_;have eq1:rZ h2 (.ref a') (.ref a)=DJ true:=mw (ow (n:=19) b4 b3) (ow (n:=19) (a4.keep b2) (b2 _ _ a3)) (by (refine yF kp.o ?_;rfl));have eq2:rZ h2 (.ref (Ln+2)) (.ref (Lo+2))=DJ true:=mw (j5 (n:=19) n2 n1) (j5 (n:=19) o2 o1) (by (refine yF kp.i ?_;rfl));have eq3:rZ h2 (.str Nn.name) (.str No.name)=DJ true:=by (refine DK (bG _ _ _) ?_;refine yF kp.n ?_);simp
  refine fH (h1:=h2) (j0 (rg (by simp) (fun e he=> ?_))) ?_
  ·simp only[ER,EW,or_false]at he;rcases he with rfl | rfl | rfl
   ·simp only[aB,aU,aK,se,oB,oM,eq1,ET]
   ·simp only[aB,aU,aK,cV,se,oB,oM,ato,atn,eq2,ET]
   ·have:decide (Nn.name=No.name)=true:=by refine yF kp.n ?_;simp
    simp only[aB,aU,aK,cV,se,bG,oB,oM,ato,atn,this,ET]
  ·have hnl:es'.length<=1000:=by have:=b6.1;have:=lC Nn.cells;have:=gn.small.cc;exact bS (nat_lit 13032087440200980469794242) tt ‹_› ‹_› this
   have hsk:es'.all iE=true:=by
    rewrite[Fc];intro p hp;refine aq (FJ hp) fun i hi=>?_;have hl:=(gS.mp hi).1;rw[b6.1]at hl;refine af (b6.2 i _ (gE hl)) fun x e1 uu=>?_;rw[hi]at e1;revert hp hi;refine jR e1 ?_;intro hp hi;rfl
   have hit:bZ h2 false (.ref b')=DJ (es'.map (·.1),DJ (b',.dict es')):=by
    dsimp only[l7];refine yF b5 ?_;exact if_pos hsk
   have a6':=a6.keep b2;have hcmp:=xg (cl:=cl) (rng:=false) (it:= .loc 7) (e:= .bop true [(.cmp .in_ (.loc 0) (.free 5)),(.cmp .eq (.sub (.free 7) (.loc 0)) (.sub (.free 5) (.loc 0)))]) (m:=[DJ (.ref (Lo+1)),DJ (.ref (Ln+1)),DJ (.ref pa),DJ (.int full),DJ (.ref a),DJ (.ref b),DJ (.ref a'),DJ (.ref b')]) (c:=[]) (h:=h2) (h1:=h2) (x:= .ref b') (fun _=> .bool true) rfl hit (by unfold av;simp[b5]) (by refine yF (DR _) ?_;exact hnl) (fun v hv=>by
    refine af (Es.mp hv) fun p hp z3=>?_;subst z3;refine aq (FJ hp) fun i hi=>?_;have hl:=(gS.mp hi).1;rw[b6.1]at hl;refine af (b6.2 i _ (gE hl)) fun x e1 e2=>?_;rw[hi]at e1;refine jR e1 ?_;have hcm:=Ey hl;have hok:=kM gn _ hcm;refine kZ (kp.s _ hcm) fun c hc c1 c2 c3 c4=>?_;refine af (a6'.find (by dsimp only[<- dO];exact go.nmz) hc) fun y f1 f2=>?_;refine af (b6.find (by dsimp only[<- dO];exact gn.nmz) hcm) fun y' g1 g2=>?_;generalize (eh Nn.cells)[i]=c' at *;rw[c1]at f1;refine aq (p8 (h:=h2) (n:=21) hok) fun dp hdp=>?_;have hin:bc h2 (.str (cr c'.param)) (.ref b)=DJ true:=by
     simp only[vL,b2 _ _ a5,vN,if_true,f1,G1]
    have hs1:fS h2 (.ref b') (.str (cr c'.param))=DJ (.tup [.str c'.kind,c'.param,.ref y']):=by simp only[kG,b5,vN,if_true,g1]
    have hs2:fS h2 (.ref b) (.str (cr c'.param))=DJ (.tup [.str c.kind,c.param,.ref y]):=by simp only[kG,b2 _ _ a5,vN,if_true,f1]
    have heq:rZ h2 (.tup [.str c'.kind,c'.param,.ref y']) (.tup [.str c.kind,c.param,.ref y])=DJ true:=by
     refine yF c2 ?_;refine yF c3 ?_;exact mw (gu (n:=23) (pX (by rfl) hdp (dF (n:=22) g2 (ot _)))) (gu (n:=23) (pX (by rfl) hdp (dF (n:=22) f2 (ot _)))) (by (refine yF c4 ?_;rfl))
    refine lF ?_ ?_
    ·simp only[qG,zO,zP,aK,kF,oB,hin]
    ·simp only[qG,zO,zP,aK,bD,bt,oB,hs1,hs2,heq])
   have hbl:(es'.map (·.1)).map (fun _=>AV.bool true)=(es'.map fun _=>true).map AV.bool:=by (refine DK map_map ?_;refine yF map_map ?_);rfl
   rw[hbl]at hcmp;have hcon:bc (h2++[.list ((es'.map fun _=>true).map AV.bool)]) (.bool false) (.ref h2.length)=DJ (decide (false∈es'.map fun _=>true)):=by
    unfold bc;simp only[bO];exact kN
   have hnf:decide (false∈es'.map fun _=>true)=false:=by simp
   rw[hnf]at hcon;refine bK (v:= .bool true) (h1:=h2++[.list ((es'.map fun _=>true).map AV.bool)]) (fK (x:= .bool false) (y:= .ref h2.length) (h1:=h2) rfl hcmp (by simp only[sf,oM,hcon,oM,ID])) (Ed ⟨_,rfl,rfl,(a2.trans b2).snoc _⟩)
 exact⟨H',e,r⟩
theorem um:∀ (l acc:List Int),(acc++l).Nodup->l.foldl (fun acc x=>if acc.any (· == x) then acc else acc++[x]) acc=acc++l:=by
 intro l;induction l with
 | nil=>intro acc _;simp
 | cons a l ih=>
  intro acc h;have ha:acc.any (· == a)=false:=by
   rewrite[HH];intro x hx;rw[Fa]at h;have:=h.2.2 x hx a (by simp);simpa using this
  dsimp only[F4];refine yF (if_neg (by refine yF ha ?_;simp)) ?_;rewrite[ih (acc++[a]) (by refine yF (D1 _ _ _) ?_;exact h)];rewrite[D1];rfl
theorem sU{l:List Int}(h:l.Nodup):fM l=l.length:=by
 unfold fM wU;refine yF (um l [] (by simpa using h)) ?_;rfl
theorem xN:∀ (l:List Int) (m:Int),2<=m->(∀ x∈l,2<=x)->2<=l.foldl (fun m x=>if x<m then x else m) m:=by
 intro l;induction l with
 | nil=>intro m h _;exact h
 | cons a l ih=>
  intro m h hs;dsimp only[F4];refine ih _ ?_ (fun x hx=>hs x (by simp[hx]));split
  ·exact hs a (by simp)
  ·exact h
theorem rh{l:List Int}(hn:l≠[])(hs:∀ x∈l,2<=x):∃ m,vH l=DJ m/\2<=m:=by
 cases l with
 | nil=>exact absurd rfl hn
 | cons a l=>exact ⟨_,rfl,xN l a (hs a (by simp)) fun x hx=>hs x (by simp[hx])⟩
inductive bX:Nm->List Int->Prop where
 | lut (l:List Int):l.Nodup->(∀ x∈l,2<=x)->2<=l.length->l.length<=3->bX df l
 | cell (l:List Int):bX bU l
 | flop (l:List Int):bX ft l
 | latch (l:List Int):bX dL l
 | mux (s a b:Int):2<=s->a≠b->¬ (a<2/\b<2)->bX ef [s,a,b]
 | gate (k:Nm) (a b:Int):k∈nW->2<=a->2<=b->a≠b->bX k [a,b]
 | not (a:Int):2<=a->bX bC [a]
theorem rj{l:List Int}{m:Int}(e:vH l=DJ m):pH h .min1 [.tup (aa l)]=DJ (.int m,h):=by
 exact bs (hV _) (by refine yF e ?_;rfl)
theorem wi{l:List Int}(hl:l.length<100):pH h (.lenset ()) [.tup (aa l)]=DJ (.int (fM l:Nat),h):=by
 exact (if_pos (by refine yF (aQ _) ?_;exact hl)).trans (by refine yF (hV _) ?_;rfl)
theorem un{W n:Nat}{c:aj}{H:Hp}(nf:bX c.kind c.ins):∃ T,ad P W (n+1) 50 [c.v] H=DJ (.bool false,H++T):=by
 obtain⟨v,H',e,rfl,T,rfl⟩:∃ v H',ad P W (n+1) 50 [c.v] H=DJ (v,H')/\v= .bool false/\∃ T,H'=H++T:=by
  let Q0:AV->Hp->Prop:=fun v H'=>v= .bool false/\∃ T,H'=H++T
  refine bQ (Q:=Q0) (fn:=gJ) rfl rfl ?_;unfold gJ;generalize ad P W n=cl;simp only[mN,mC,dR,dS,DY,Ee,Nat.reduceSub,Ar,BB,xl,xm,xn,xp];obtain⟨k,o,l,p⟩:=c;simp only at nf;refine ac (v:=aj.v ⟨k,o,l,p⟩) (h1:=H) (m1:=[DJ (aj.v ⟨k,o,l,p⟩),DJ (.str k),DJ (.int o),DJ (.tup (aa l)),DJ p]) rfl (by unfold aj.v;simp only[sg,pg,hU,yV,yW,oB,oM,oB]) ?_;generalize aj.v ⟨k,o,l,p⟩=cv;refine cg (c:=decide (k∈[df,bU,ft,dL])) (h1:=H++[.list ([df,bU,ft,dL].map .str)]) (j0 (q8 (k:=k) (l:=[df,bU,ft,dL]) rfl rfl)) ?_ ?_
  ·intro _;generalize hHH:H++[AO.list ([df,bU,ft,dL].map .str)]=h;refine bK (v:= .bool false) (h1:=h) ?_ ⟨fun e=>by simp at e,fun _=>Ed ⟨_,rfl,rfl,_,hHH.symm⟩⟩;by_cases hk:k=df
   ·generalize hK:k=K at nf;cases nf with
    | lut l h1 h2 h3 h4=>
     refine af (rh (l:=l) (fun e=>by rw[e]at h3;simp at h3) h2) fun m m1 m2=>?_;have hd:=sU h1;refine lF rfl (rg (by simp) (fun e he=> ?_));simp only[ER,EW,or_false]at he;have t1:decide (((fM l:Nat):Int)<((l.length:Nat):Int))=false:=by refine yF hd ?_;simp
     have t2:decide (m<2)=false:=by rewrite[decide_eq_false_iff_not];exact GJ m2
     have t3:decide (((l.length:Nat):Int)<2)=false:=by rewrite[decide_eq_false_iff_not];lia
     rcases he with rfl | rfl | rfl
     ·simp only[aB,aU,aK,cO,aw,aA,mW,wX,oB,wi (h:=h) (l:=l) (Ek h4 (by decide)),aQ,t1]
     ·simp only[bd,aB,aU,aK,cO,aw,aA,mW,oB,rj (h:=h) m1,t2]
     ·simp only[bd,aB,aU,aK,cO,aw,aA,mW,wX,oB,aQ,t3]
    | gate k a b hg=>rw[<- hK,hk]at hg;exact absurd hg (by decide)
    | _=>rw[hk]at hK;exact absurd hK (by decide)
   ·have:decide (k=df)=false:=by simpa using hk
    exact ox (by simp only[bd,aB,aU,aK,bt,bG,oB,this])
  ·intro hnk;have hnk:=of_decide_eq_false hnk;generalize hHH:H++[AO.list ([df,bU,ft,dL].map .str)]=h;refine cS ?_;refine cg (c:=decide (k=ef)) (h1:=h) (by simp only[bd,aB,aU,aK,cW,cq,bt,bG,oB]) ?_ ?_
   ·intro hk;have hk:=of_decide_eq_true hk;refine bK (v:= .bool false) (h1:=h) ?_ ⟨fun e=>by simp at e,fun _=>Ed ⟨_,rfl,rfl,_,hHH.symm⟩⟩;generalize hK:k=K at nf;cases nf with
    | mux s a b h1 h2 h3=>
     have t1:decide (s<2)=false:=by rewrite[decide_eq_false_iff_not];exact GJ h1
     have t2:decide (a=b)=false:=by simpa using h2
     refine rg (by simp) (fun e he=> ?_);simp only[ER,EW,or_false]at he;rcases he with rfl | rfl | rfl
     ·simp only[bd,aB,aU,aK,bD,mW,cQ,iW,oB,aa,mC,t1]
     ·simp only[bd,aB,aU,aK,bD,bt,cQ,nK,qH,aD,oB,aa,mC,t2]
     ·by_cases ha:a<2
      ·have t3:decide (a<2)=true:=by simpa using ha
       have t4:decide (b<2)=false:=by rewrite[decide_eq_false_iff_not];exact fun q=>h3 ⟨ha,q⟩
       exact lF (by simp only[bd,aB,aU,aK,bD,mW,cQ,nK,oB,aa,mC,t3]) (by simp only[bd,aB,aU,aK,bD,mW,cQ,qH,oB,aa,mC,t4])
      ·have t3:decide (a<2)=false:=by simpa using ha
       exact ox (by simp only[bd,aB,aU,aK,bD,mW,cQ,nK,oB,aa,mC,t3])
    | gate k a b hg=>rw[<- hK,hk]at hg;exact absurd hg (by decide)
    | _=>rw[hk]at hK;exact absurd hK (by decide)
   ·intro hk;have hk:=of_decide_eq_false hk;refine cS ?_;refine bK (v:= .bool false) (h1:=h) (rg (by simp) (fun e he=> ?_)) (Ed ⟨_,rfl,rfl,_,hHH.symm⟩);simp only[ER,EW,or_false]at he;generalize hK:k=K at nf;cases nf with
    | lut l=>exact absurd (by refine yF hK ?_;simp) hnk
    | cell l=>exact absurd (by refine yF hK ?_;simp) hnk
    | flop l=>exact absurd (by refine yF hK ?_;simp) hnk
    | latch l=>exact absurd (by refine yF hK ?_;simp) hnk
    | mux s a b=>exact absurd hK hk
    | gate k a b hg h1 h2 h3=>
     have t0:decide (K=aP)=false:=by
      rewrite[decide_eq_false_iff_not];intro e;rw[e]at hg;exact absurd hg (by decide)
     refine af (rh (l:=[a,b]) (by simp) (fun x hx=>by simp at hx;rcases hx with rfl | rfl<;>assumption)) fun m m1 m2=>?_;have t2:decide (m<2)=false:=by rewrite[decide_eq_false_iff_not];exact GJ m2
     have t3:decide (a=b)=false:=by simpa using h3
     rcases he with rfl | rfl | rfl
     ·simp only[bd,aB,aU,aK,bt,bG,oB,t0]
     ·simp only[bd,aB,aU,aK,cO,aw,aA,mW,oB,rj (h:=h) m1,t2]
     ·exact lF rfl (by simp only[bd,aB,aU,aK,bD,bt,cQ,iW,nK,aD,oB,aa,mC,t3])
    | not a h1=>
     refine af (rh (l:=[a]) (by simp) (fun x hx=>by simp at hx;refine yF hx ?_;exact h1)) fun m m1 m2=>?_;have t2:decide (m<2)=false:=by rewrite[decide_eq_false_iff_not];exact GJ m2
     have t0:decide (bC=aP)=false:=by decide
     rcases he with rfl | rfl | rfl
     ·simp only[bd,aB,aU,aK,bt,bG,oB,t0]
     ·simp only[bd,aB,aU,aK,cO,aw,aA,mW,oB,rj (h:=h) m1,t2]
     ·exact ox rfl
 exact⟨T,e⟩
noncomputable def lG(N:NL)(Wn:List Int):Prop:=∀ c∈N.cells,c.out∈Wn->∀ x∈c.ins,x∈Wn
noncomputable def oy(N:NL)(Wn:List Int):Nat:=N.cells.countP fun c=>decide (c.out∈Wn)
theorem px{p q:aj->Bool}:∀ l:List aj,(∀ a∈l,p a=true->q a=true)->l.countP p=l.countP q->∀ a∈l,q a=true->p a=true:=by
 intro l;induction l with
 | nil=>intro _ _ a ha;simp at ha
 | cons a l ih=>
  intro h1 h2;have hm:l.countP p<=l.countP q:=JZ fun x hx=>h1 x (by simp[hx]);rw[Iz,Iz]at h2;have ha:=h1 a (by simp);have key:(q a=true->p a=true)/\l.countP p=l.countP q:=by
   cases hp:p a<;>cases hq:q a<;>simp_all<;>exact Gc 0 (dm (nat_lit 12591032452544) tt hm)
  intro x hx hq;rw[ER]at hx;rcases hx with rfl | hx
  ·exact key.1 hq
  ·exact ih (fun y hy=>h1 y (by simp[hy])) key.2 x hx hq
structure eD(N:NL)(W0:List Int)(k:Nat)(Wn:List Int):Prop where
 sub:∀ x∈W0,x∈Wn
 done:∀ c∈N.cells.take k,c.out∈W0->∀ x∈c.ins,x∈Wn
 stay:lG N W0->∀ x∈Wn,x∈W0
 min:∀ C,kK N C->(∀ x∈W0,∀ b,eP N.cells x=DJ b->C b)->∀ x∈Wn,∀ b,eP N.cells x=DJ b->C b
theorem iN{x:Int}{b:Nat}(h:eP l x=DJ b):b<l.length/\(cA l b).out=x:=by
 unfold eP at h;refine af (Go.mp h) fun hl h1 uu=>?_;refine⟨hl,?_⟩;refine yF (n3 (gE hl)) ?_;simpa using h1
theorem fP(hn:(l.map (·.out)).Nodup)(hi:i<l.length):eP l (cA l i).out=DJ i:=by
 cases h:eP l (cA l i).out with
 | none=>
  unfold eP at h;rw[IC]at h;have:=h _ (bL hi);simp at this
 | some b=>
  refine am (iN h) fun h1 h2=>?_;congr 1;have e1:(l.map (·.out))[b]? =DJ (cA l i).out:=by (refine DK DX ?_;refine yF (gQ h1) ?_;refine yB h2 ?_);rfl
  have e2:(l.map (·.out))[i]? =DJ (cA l i).out:=by (refine DK DX ?_;refine yF (gQ hi) ?_);rfl
  have hb':b<(l.map (·.out)).length:=by refine yF (DR _) ?_;exact h1
  exact (Hk hb' hn).mp (e1.trans e2.symm)
theorem eD.init(N:NL)(W0:List Int):eD N W0 0 W0:=⟨fun _ h=>h,fun c hc=>by simp at hc,fun _ _ h=>h,fun _ _ h=>h⟩
theorem eD.skip{W0 Wn:List Int}{k:Nat}(p:eD N W0 k Wn)(hc:N.cells[k]? =DJ c)(h:c.out∉Wn):eD N W0 (k+1) Wn:=
 ⟨p.sub,fun d hd ho=>by
  rw[bn hc,DZ,DT]at hd;rcases hd with hd | rfl
  ·exact p.done d hd ho
  ·exact absurd (p.sub _ ho) h,p.stay,p.min⟩
theorem eD.add{W0 Wn:List Int}{k:Nat}(p:eD N W0 k Wn)(hn:(outs N).Nodup)(hc:N.cells[k]? =DJ c)(h:c.out∈Wn):eD N W0 (k+1) (Wn++c.ins.filter fun x=>decide (x∉Wn)):=by
 have hmem:∀ x,x∈Wn++c.ins.filter (fun x=>decide (x∉Wn))↔x∈Wn\/x∈c.ins:=by
  intro x;rewrite[DZ];rewrite[E5];constructor
  ·rintro (a | ⟨a,_⟩)
   ·exact Ed a
   ·exact Ew a
  ·rintro (a | a)
   ·exact Ed a
   ·by_cases q:x∈Wn
    ·exact Ed q
    ·exact Ew ⟨a,by simpa using q⟩
 have hcm:c∈N.cells:=D8 hc;have hkl:=(gS.mp hc).1;refine⟨fun x hx=>(hmem x).mpr (Ed (p.sub x hx)),fun d hd ho x hx=> ?_,fun hcl x hx=> ?_,fun C hC h0 x hx b hb=> ?_⟩
 ·rw[bn hc,DZ,DT]at hd;rewrite[hmem];rcases hd with hd | rfl
  ·exact Ed (p.done d hd ho x hx)
  ·exact Ew hx
 ·rcases (hmem x).mp hx with q | q
  ·exact p.stay hcl x q
  ·exact hcl c hcm (p.stay hcl _ h) x q
 ·rcases (hmem x).mp hx with q | q
  ·exact p.min C hC h0 x q b hb
  ·have hck:cA N.cells k=c:=n3 hc;have hd:=fP hn hkl;rw[hck]at hd;have:=p.min C hC h0 c.out h k hd;exact hC.2 k this hkl x (by refine yF hck ?_;exact q) b hb
theorem eD.fin{W0 Wn:List Int}(p:eD N W0 N.cells.length Wn){t:Nat}(h:lG N W0\/t<=oy N W0):lG N Wn\/t+1<=oy N Wn:=by
 rcases h with h | h
 ·left
  intro c hc ho x hx;exact p.sub x (h c hc (p.stay h _ ho) x hx)
 ·by_cases hq:oy N W0<oy N Wn
  ·right;exact bS (nat_lit 361714518144855074) tt h hq
  ·left
   have hm:oy N W0<=oy N Wn:=JZ fun c hc q=>by
    simp only[decide_eq_true_iff]at q ⊢;exact p.sub _ q
   have:=px N.cells (p:=fun c=>decide (c.out∈W0)) (q:=fun c=>decide (c.out∈Wn)) (fun a ha q=>by
    simp only[decide_eq_true_iff]at q ⊢;exact p.sub _ q) (by unfold oy at hm hq;exact Eo (bu (nat_lit 336603168) tt hm) (bu (nat_lit 336603168) tt (E6 hq)))
   intro c hc ho x hx;have h2:=this c hc (by simpa using ho);exact p.done c (by refine yF Ef ?_;exact hc) (by simpa using h2) x hx
theorem wj{Wn:List Int}{S:List Nat}(hn:(outs N).Nodup)(u:dN N S)(h0:∀ x∈ar N.outputs,x∈Wn)(hmin:∀ C,kK N C->∀ x∈Wn,∀ b,eP N.cells x=DJ b->C b)(hc:lG N Wn\/N.cells.length<=oy N Wn):
  N.cells.filter (fun c=>decide (c.out∈Wn))=aG N.cells S:=by
 have key:∀ i,i<N.cells.length->((cA N.cells i).out∈Wn↔i∈S):=by
  intro i hi;constructor
  ·intro h;exact hmin _ u.cl _ h i (fP hn hi)
  ·intro h;refine u.mn (fun i=>(cA N.cells i).out∈Wn) ⟨fun x hx b hb=> ?_,fun j hj hjl x hx b hb=> ?_⟩ i h
   ·show (cA N.cells b).out∈Wn;refine yF ((iN hb).2) ?_;exact h0 x hx
   ·refine am (iN hb) fun hb1 hb2=>?_;rcases hc with hc | hc
    ·show (cA N.cells b).out∈Wn;refine yF hb2 ?_;exact hc _ (bL hjl) hj x hx
    ·have:oy N Wn=N.cells.length:=Eo countP_le_length hc;unfold oy at this;rw[JX]at this;simpa using this _ (bL hb1)
 unfold aG;have hl:N.cells=(Ec N.cells.length).map (cA N.cells):=by
  apply FU;intro j;refine yF DX ?_;by_cases hj:j<N.cells.length
  ·refine yF (Ff hj) ?_;refine DK (gQ hj) ?_;rfl
  ·refine DK (EN (Fe.mp hj)) ?_;refine yF (EN (by simp;exact Fe.mp hj)) ?_;rfl
 conv=>lhs;rw[hl]
 refine DK filter_map ?_;congr 1;apply L3;intro i hi;rw[E7]at hi;simp only[HQ];rewrite[decide_eq_decide];exact key i hi
theorem zi(h:n<=100000):n<bo:=Ek h (by decide)
theorem uo{a b:Nat}{xs ys:List Int}(ha:h[a]? =DJ (.list (aa xs)))(hb:h[b]? =DJ (.list (aa ys)))(hl:xs.length+ys.length<=100000):qE h .add (.ref a) (.ref b)=DJ (.ref h.length,h++[.list (aa (xs++ys))]):=by
 exact oL ha (oL hb ((if_pos ⟨rfl,by (refine yF (aQ _) ?_;refine yF (aQ _) ?_);exact zi hl⟩).trans (by (refine yF (iK _ _) ?_;rfl))))
theorem rm{a:Nat}{x:Int}{l:List Int}(ha:h[a]? =DJ (.list (aa l))):bc h (.int x) (.ref a)=DJ (decide (x∈l)):=by
 unfold bc;simp only[ha];exact pM
theorem wk(q:aI h L N)(hs:gP N)(l0:∀ h,ek m 0 h=DJ (.ref (L+1),h)):aC cl (.comp 3 (.many [0,1]) false (.attr (.loc 0) el) (.for_ (.one 2) false (.loc 1) (.elt (.loc 2)))) m [] h=DJ (.ref h.length,h++[.list (aa (ar N.outputs))]):=by
 refine af q.outp fun vi i1 i2=>?_;have at0:=q.attr;refine dH (j3 (cl:=cl) (k:=3) (t:= .many [0,1]) (rng:=false) (it:= .attr (.loc 0) el) (g:= .for_ (.one 2) false (.loc 1) (.elt (.loc 2))) (m:=m) (c:=[]) (h:=h) (h1:=h) (x:= .ref (L+3)) (vs:=vi) (gd:=DJ (L+3,.list vi))
  (fun j c h' acc=>(∃ x y z,c=[x,y,z])/\h'=h/\acc=aa (ar (N.outputs.take j))) (by simp only[cV,oB,bW,bx,l0,oB,oM,at0]) (aF _ _ _ i1) ⟨⟨none,none,none,rfl⟩,rfl,rfl⟩ (fun j c h' acc s=>by refine yF s.2.1 ?_;unfold av;simp[i1])
  (fun j v c h' acc hv s=>by
   refine bY s fun z1 z2 z3=>?_;clear s;refine qB z1 fun x y z z64=>?_;clear z1;subst z64;subst z2;subst z3;have hj:=(gS.mp hv).1;rw[i2.1]at hj;refine aM (i2.2 j _ (gE hj)) fun a b1 b2 b3=>?_;have ht:N.outputs.take (j+1)=N.outputs.take j++[N.outputs[j]]:=by (refine DK E1 ?_;refine yF (gE hj) ?_);rfl
   have hpl:=hs.po _ (Ey hj);have hil:=hs.co;generalize N.outputs[j]=p at *;rw[hv]at b2;revert hv;refine jR b2 ?_;intro hv;have hkl:(ar (N.outputs.take j)).length<=400:=by
    have:=gV (l:=N.outputs.take j) (fun p hp=>hs.po p (FC hp));rw[EG]at this;exact bS (nat_lit 16129433153597313766486657892319186778300908877605065262) tt this (ES 20 (EE _ _)) (ES 20 hil)
   refine dH (u4 (cl:=cl) (t:= .one 2) (rng:=false) (it:= .loc 1) (g:= .elt (.loc 2)) (m:=m) (c:=[DJ (.str p.1),DJ (.ref a),z]) (h:=h') (h1:=h') (acc:=aa (ar (N.outputs.take j))) (x:= .ref a) (gd:=DJ (a,.list (aa p.2)))
    (fun i c h2 acc=>(∃ z,c=[DJ (.str p.1),DJ (.ref a),z])/\h2=h'/\acc=aa (ar (N.outputs.take j)++p.2.take i)) rfl (aF _ _ _ b3) ⟨⟨z,rfl⟩,rfl,by simp⟩ (fun j c h' acc s=>by refine yF s.2.1 ?_;unfold av;simp[b3])
    (fun i v c h2 acc hv s=>by
     refine bY s fun z1 z2 z3=>?_;clear s;refine aq z1 fun z z62=>?_;clear z1;subst z62;subst z2;subst z3;have hi:=(gS.mp hv).1;rw[aQ]at hi;have hpi:p.2[i]? =DJ p.2[i]:=gE hi;rw[DX,hpi]at hv;have htk:=bn hpi;generalize p.2[i]=x at *;simp only[oM,D7]at hv;subst hv;exact⟨[DJ (.str p.1),DJ (.ref a),DJ (.int x)],_,_,_,rfl,j4 (v:= .int x) (by simp only[C3]<;>rfl) (by (refine yF (aQ _) ?_;refine yF DU ?_;refine yF EG ?_);exact bS (nat_lit 437284301085295266272995141535168) tt (EE _ _) hpl hkl),⟨_,rfl⟩,rfl,by (refine yF htk ?_;refine yB (D1 _ _ _) ?_);unfold aa;refine yF (Ez (l₂:=[x])) ?_;rfl⟩)) fun c2 h2 acc2 e2 z5 hh hacc=>?_;refine aq z5 fun z' hz=>?_;clear z5
   refine⟨[DJ (.str p.1),DJ (.ref a),z],c2,h2,acc2,rfl,e2,⟨_,_,_,hz⟩,hh,?_⟩;refine DK hacc ?_;refine yF ht ?_;refine yF (aQ _) ?_;refine yF Ef ?_;unfold ar;(refine yF FR ?_;refine yF Fo ?_;refine yF G2 ?_;refine yF (EC _) ?_;rfl))) fun c' h' acc e uu s2 s3=>?_
 rw[i2.1,Ef]at s3;refine DK e ?_;refine yF s2 ?_;refine yF s3 ?_;rfl
theorem AF{n L:Nat}{N:NL}{H:Hp}{S:List Nat}(q:aI H L N)(hs:gP N)(hn:(outs N).Nodup)(u:dN N S):∃ a H',ad P 1000 (n+1) 51 [.ref (L+1)] H=DJ (.ref a,H')/\ai H H'/\H'[a]? =DJ (.list ((aG N.cells S).map aj.v)):=by
 obtain⟨v,H',e,a,rfl,r⟩:∃ v H',ad P 1000 (n+1) 51 [.ref (L+1)] H=DJ (v,H')/\∃ a,v= .ref a/\ai H H'/\H'[a]? =DJ (.list ((aG N.cells S).map aj.v)):=by
  let Q0:AV->Hp->Prop:=fun v H'=>∃ a,v= .ref a/\ai H H'/\H'[a]? =DJ (.list ((aG N.cells S).map aj.v))
  refine bQ (Q:=Q0) (fn:=kE) rfl rfl ?_;unfold kE;generalize ad P 1000 n=cl;simp only[mN,mC,dR,dS,DY,Ee,Nat.reduceSub,As,t5];have hcc:=hs.cc;have hnl:=gV (l:=N.outputs) hs.po;have hco:=hs.co;refine ac (m1:=[DJ (.ref (L+1)),DJ (.ref H.length),none,none]) (wk q hs (fun h=>rfl)) rfl ?_;have k0:ai H (H++[.list (aa (ar N.outputs))]):=ai.push _ _;have g0:(H++[AO.list (aa (ar N.outputs))])[H.length]? =DJ (.list (aa (ar N.outputs))):=au;generalize H++[AO.list (aa (ar N.outputs))]=h0 at *;have q0:=q.keep k0;have at0:=q0.attr;let St1:Nat->aZ->Hp->Prop:=fun t m h=>∃ Wn a x2 x3,m=[DJ (.ref (L+1)),DJ (.ref a),x2,x3]/\ai H h/\h[a]? =DJ (.list (aa Wn))/\Wn.length<=400+400 * t/\(∀ x∈ar N.outputs,x∈Wn)/\(∀ C,kK N C->∀ x∈Wn,∀ b,eP N.cells x=DJ b->C b)/\(lG N Wn\/t<=oy N Wn)
  refine da (n:=N.cells.length) (h1:=h0) St1
   (by simp only[aB,cV,cO,aw,aA,oB,at0,dc q0.cel,DR]) (DO hcc (by decide)) ⟨ar N.outputs,H.length,none,none,rfl,k0,g0,bu (nat_lit 14993884846147463921207668644871847035496496681518) tt hnl (ES 20 hco),fun x hx=>hx,fun C hC x hx b hb=>hC.1 x hx b hb,Ew (Gz _)⟩ ?_ ?_
  ·intro t m h ht z5;refine yK z5 fun W0 a0 x2 x3 z164 a1 a2 a3 a4 a5 a6=>?_;clear z5;subst z164;refine⟨[DJ (.ref (L+1)),DJ (.ref a0),DJ (.int t),x3],rfl,?_⟩;have q1:=q.keep a1;have at1:=q1.attr;let St2:Nat->aZ->Hp->Prop:=fun k m h=>∃ Wn a x3,m=[DJ (.ref (L+1)),DJ (.ref a),DJ (.int t),x3]/\ai H h/\h[a]? =DJ (.list (aa Wn))/\Wn.length<=400+400 * t+20 * k/\eD N W0 k Wn
   refine dM (x:= .ref (L+4)) (vs:=N.cells.map aj.v) (gd:=DJ (L+4,.list (N.cells.map aj.v))) (h1:=h) St2
    (by simp only[aB,cV,oB,at1]) (aF _ _ _ q1.cel) ⟨W0,a0,x3,rfl,a1,a2,bu (nat_lit 468559064641741165670939762178112166572780733888) tt a3,eD.init N W0⟩ (fun j m h _ z=>tL z fun _ _ _ _ s _=>by unfold av;simp[(q.keep s).cel]) ?_ ?_
   ·intro k v m h hv z6;refine iC z6 fun Wn a x3 z193 b1 b2 b3 b4=>?_;clear z6;subst z193;have hk':=(gS.mp hv).1;rw[DR]at hk';have hck:N.cells[k]? =DJ N.cells[k]:=gE hk';rw[DX,hck]at hv;have hcm:=Ey hk';have hni:=hs.ni _ hcm;generalize N.cells[k]=c at *;simp only[oM,D7]at hv;subst hv;refine⟨[DJ (.ref (L+1)),DJ (.ref a),DJ (.int t),DJ c.v],rfl,?_⟩;refine cg (c:=decide (c.out∈Wn)) (h1:=h) (by unfold aj.v;simp only[bd,aB,aU,aK,bD,cW,cq,kF,cQ,nK,oB,rm b2]) ?_ ?_
    ·intro hin;have hin:=of_decide_eq_true hin;refine aq (gc (cl:=cl) (m:=[DJ (.ref (L+1)),DJ (.ref a),DJ (.int t),DJ c.v]) (c:=[]) (h:=h) (h1:=h) (rng:=false) (it:= .sub (.loc 3) (.const (.int 2))) (t:= .cmp .notIn (.loc 0) (.free 1)) (x:= .tup (aa c.ins)) c.ins AV.int (gd:=none) (fun x=>decide (x∉Wn)) (by unfold aj.v;simp only[bd,aB,aU,bD,cQ,qH,oB]) rfl (DO hni (by decide)) (fun T=>rfl) (fun x hx T=>by
      refine⟨T,.bool (decide (x∉Wn)),?_,rfl⟩;have:(!decide (x∈Wn))=decide (x∉Wn):=by by_cases hq:x∈Wn<;>simp[hq]
      refine yB this ?_;simp only[qG,zO,zP,aK,sf,oB,oM,rm (fN T b2)])) fun T hT=>?_
     have k1:ai h ((h++T)++[.list (aa (c.ins.filter fun x=>decide (x∉Wn)))]):=(ai.push _ _).trans (ai.push _ _);have g1:((h++T)++[AO.list (aa (c.ins.filter fun x=>decide (x∉Wn)))])[(h++T).length]? =DJ (.list (aa (c.ins.filter fun x=>decide (x∉Wn)))):=au;change aC cl _ _ _ h=DJ (_,(h++T)++[AO.list (aa (c.ins.filter fun x=>decide (x∉Wn)))]) at hT;generalize (h++T)++[AO.list (aa (c.ins.filter fun x=>decide (x∉Wn)))]=h2 at *;have hfl:=EI (fun x=>decide (x∉Wn)) c.ins;have had:=uo (k1 _ _ b2) g1 (by lia);refine ac (v:= .ref h2.length) (m1:=[DJ (.ref (L+1)),DJ (.ref h2.length),DJ (.int t),DJ c.v]) (iZ (x:= .ref a) (h1:=h) rfl hT had) rfl (bz ⟨by simp,_,_,_,rfl,(b1.trans k1).snoc _,au,?_,b4.add hn hck hin⟩);refine yF DU ?_;exact wK (nat_lit 18561200220700422232381568145775946221816129594143059363277274397391874475456) tt hfl hni b3
    ·intro hin;have hin:=of_decide_eq_false hin;exact bz ⟨by simp,Wn,a,_,rfl,b1,b2,bS (nat_lit 16485657478262739029975294724261519678514651066458720682427840) tt b3,b4.skip hck hin⟩
   ·intro m h z3;refine iC z3 fun Wn a x3 z103 b1 b2 b3 b4=>?_;clear z3;subst z103;rw[DR]at b3 b4;refine aN ⟨by simp,Wn,a,_,_,rfl,b1,b2,bS (nat_lit 566442877720127339093997250583083091907292886704188959305620527462306350) tt b3 (ES 20 hcc),fun x hx=>b4.sub x (a4 x hx),fun C hC=>b4.min C hC (a5 C hC),b4.fin a6⟩
  ·intro m h z3;refine yK z3 fun Wn a x2 x3 z104 a1 a2 a3 a4 a5 a6=>?_;clear z3;subst z104;have q1:=q.keep a1;have at1:=q1.attr;refine aq (gc (cl:=cl) (m:=[DJ (.ref (L+1)),DJ (.ref a),x2,x3]) (c:=[]) (h:=h) (h1:=h) (rng:=false) (it:= .attr (.loc 0) fZ) (t:= .cmp .in_ (.sub (.loc 0) (.const (.int 1))) (.free 1)) (x:= .ref (L+4)) N.cells aj.v (gd:=DJ (L+4,.list (N.cells.map aj.v))) (fun c=>decide (c.out∈Wn)) (by simp only[aB,cV,oB,at1]) (aF _ _ _ q1.cel) (DO hcc (by decide)) (fun T=>by unfold av;simp[fN T q1.cel]) (fun c hc T=>by
    refine⟨T,.bool (decide (c.out∈Wn)),?_,rfl⟩;unfold aj.v;simp only[bd,qG,zO,zP,aK,bD,kF,cQ,nK,oB,rm (fN T a2)])) fun T hT=>?_
   refine bK hT (Ed ⟨_,rfl,_,rfl,a1.trans ((ai.push _ _).trans (ai.push _ _)),?_⟩);refine yB (wj hn u a4 a5 a6) ?_;exact au
 exact⟨a,H',e,r⟩
noncomputable def lH(N:NL)(R:List Nat):NL:=be N (aH N.cells R).cells (aH N.cells R).rep
noncomputable def oz(N:NL)(R:List Nat):NL:=be N N.cells (cT N.cells R).rep
noncomputable def kb(N:NL)(S:List Nat):NL:=be N (aG N.cells S) (fun _=>none)
structure Tr(N B:NL):Prop where
 good:cn B
 keys:∀ k∈de B,k∈de N
 sat:∀ pat rows W,jk N pat rows W->jk B pat rows W/\AD N B W W
structure zV:Prop where
 fo:∀ N,cn N->∀ R,cP N.cells R->ub N R
 fg:∀ N,cn N->∀ R,cP N.cells R->Tr N (lH N R)/\(∀ c∈(lH N R).cells,bX c.kind c.ins)/\bf (lH N R).cells=bf N.cells
 do_:∀ N,cn N->∀ R,cP N.cells R->uc N R
 dg:∀ N,cn N->∀ R,cP N.cells R->Tr N (oz N R)/\(∀ c∈(oz N R).cells,c.kind≠aP)/\bf (oz N R).cells=bf N.cells
 ug:∀ N,cn N->∀ S,dN N S->Tr N (kb N S)/\(kb N S).cells=aG N.cells S/\∀ S',dN (kb N S) S'->aG (kb N S).cells S'=(kb N S).cells
theorem Tr.trans(x:Tr A B)(y:Tr B C):Tr A C:=
 ⟨y.good,fun k hk=>x.keys k (y.keys k hk),fun pat rows W h=>by
  refine am (x.sat pat rows W h) fun b1 b2=>?_;refine am (y.sat pat rows W b1) fun c1 c2=>?_;refine⟨c1,c2.o.trans b2.o,c2.i.trans b2.i,c2.n.trans b2.n,fun c hc=> ?_⟩;refine kZ (c2.s c hc) fun d d1 d2 d3 d4 d5=>?_;refine kZ (b2.s d d1) fun e e1 e2 e3 e4 e5=>?_;exact⟨e,e1,e2.trans d2,e3.trans d3,e4.trans d4,e5.trans d5⟩⟩
theorem Tr.kept(x:Tr N B){pat:AV->Nat}{rows:Nat}{W W':Int->Nat}(h:jk N pat rows W)(h':jk B pat rows W'):AD N B W W':=by
 refine am (x.sat pat rows W h) fun b1 b2=>?_;have hu:=jk.unique x.good b1 h';refine⟨?_,b2.i,b2.n,fun c hc=> ?_⟩
 ·refine DK ?_ b2.o;apply EX;intro p hp;unfold mQ;have:p.2.map W'=p.2.map W:=EX fun y hy=>(hu y (x.good.drvO y (G3.mpr ⟨p,hp,hy⟩))).symm;refine yF this ?_;rfl
 ·refine kZ (b2.s c hc) fun d d1 d2 d3 d4 d5=>?_;refine⟨d,d1,d2,d3,d4,d5.trans ?_⟩;exact EX fun y hy=>hu y (x.good.drv c (gr.mp hc).1 y hy)
theorem cn.outsNd(g:cn N):(outs N).Nodup:=by
 have:=g.nd;rw[Fa]at this;exact this.2.1
theorem xO(ok:aT k l p):∃ d,res h (n+2) p=DJ d:=by
 cases ok with
 | lut l t=>exact ⟨_,rfl⟩
 | cell l t nm=>exact ⟨_,gu (sS (by rfl) (by rfl))⟩
 | _=>exact ⟨_,rfl⟩
theorem xP(g:cn N)(hc:c∈N.cells):∃ d,res h (n+3) c.v=DJ d:=by
 obtain⟨d,hd⟩:∃ d,res h (n+2) c.param=DJ d:=by
  cases hk:bh c.kind with
  | true=>exact p8 (g.st c hc hk)
  | false=>exact xO (g.comb c hc hk)
 refine⟨_,gu (n:=n+2) (ds:=[.str c.kind,.int c.out,.tup (c.ins.map D.int),d]) ?_⟩;refine DK Fg ?_;refine yF (show res h (n+2) (.str c.kind)=DJ (.str c.kind) from rfl) ?_;rewrite[pX (by rfl) (gu (n:=n+1) (lg _)) hd];rfl
theorem qa(g:cn N):∃ ds,(N.cells.map aj.v).mapM (res h (n+3))=DJ ds:=by
 have:∀ l:List aj,(∀ c∈l,c∈N.cells)->∃ ds,(l.map aj.v).mapM (res h (n+3))=DJ ds:=by
  intro l;induction l with
  | nil=>intro _;exact⟨[],rfl⟩
  | cons c l ih=>
   intro hl;refine aq (ih fun x hx=>hl x (by simp[hx])) fun ds h1=>?_;refine aq (xP g (hl c (by simp)) (h:=h) (n:=n)) fun d h2=>?_;exact⟨d::ds,by (refine yF mC ?_;refine DK Fg ?_;refine yF h2 ?_;refine yF h1 ?_);rfl⟩
 exact this N.cells fun c hc=>hc
theorem qc(q:aI h L N)(hs:gP N)(l3:∀ h,ek m 3 h=DJ (.ref (L+1),h)):∃ (a:Nat) (vs:List AV) (h':Hp),aC cl (.comp 2 (.many [0,1]) false (.bin .add (.attr (.loc 3) fJ) (.attr (.loc 3) el)) (.elt (.tup [(.loc 0),(.bi .list [(.loc 1)])]))) m [] h=DJ (.ref a,h')/\ai h h'/\h'[a]? =DJ (.list vs)/\cC h' 0 vs (N.inputs++N.outputs):=by
 refine af q.inp fun vi i1 i2=>?_;refine af q.outp fun vo o1 o2=>?_;have at0:=q.attr;have hci:=hs.ci;have hco:=hs.co;have hlt:=(gS.mp q.cel).1;have hadd:qE h .add (.ref (L+2)) (.ref (L+3))=DJ (.ref h.length,h++[.list (vi++vo)]):=by
  exact oL i1 (oL o1 (if_pos ⟨rfl,by (rewrite[i2.1];rewrite[o2.1]);exact aV (bu (nat_lit 417026806912724112652256704) tt hco hci)⟩))
 have pall:cC h 0 (vi++vo) (N.inputs++N.outputs):=by
  refine⟨by (refine DK DU ?_;refine yF DU ?_;rewrite[i2.1];rewrite[o2.1];rfl),fun j p e=> ?_⟩;by_cases hj:j<N.inputs.length
  ·rw[Eh hj]at e;refine aM (i2.2 j p e) fun a b1 b2 b3=>?_;exact⟨a,bu (nat_lit 12110029672897) tt b1,by (rewrite[Eh (by rewrite[i2.1];exact hj)]);exact b2,b3⟩
  ·rw[D9 (Fe.mp hj)]at e;refine aM (o2.2 _ p e) fun a b1 b2 b3=>?_;exact⟨a,bu (nat_lit 12110029672897) tt b1,by (rewrite[D9 (by rewrite[i2.1];exact Fe.mp hj)];rewrite[i2.1]);exact b2,b3⟩
 have k0:=ai.push h [.list (vi++vo)];have g0:(h++[AO.list (vi++vo)])[h.length]? =DJ (.list (vi++vo)):=au;have hl0:0<(h++[AO.list (vi++vo)]).length:=by simp
 generalize h.length=xa at *;generalize h++[AO.list (vi++vo)]=h1 at *;have pall:=pall.keep (h':=h1) (fun a o _ e=>k0 _ _ e);have hcl:(N.inputs++N.outputs).length<=40:=by refine yF DU ?_;exact bu (nat_lit 13017728978639507918833088) tt hco hci
 generalize N.inputs++N.outputs=ps at *;generalize vi++vo=vs at *;refine dH (j3 (cl:=cl) (k:=2) (t:= .many [0,1]) (rng:=false) (it:= .bin .add (.attr (.loc 3) fJ) (.attr (.loc 3) el)) (g:= .elt (.tup [(.loc 0),(.bi .list [(.loc 1)])])) (m:=m) (c:=[]) (h:=h) (h1:=h1) (x:= .ref xa) (vs:=vs) (gd:=DJ (xa,.list vs))
  (fun j c h' acc=>(∃ x y,c=[x,y])/\ai h1 h'/\cC h' 0 acc (ps.take j)) (iZ (x:= .ref (L+2)) (y:= .ref (L+3)) (h1:=h) (h2:=h) (by simp only[cV,oB,bW,bx,l3,oB,oM,at0]) (by simp only[cV,oB,bW,bx,l3,oB,oM,at0]) hadd) (aF _ _ _ g0) ⟨⟨none,none,rfl⟩,ai.refl _,cC.nil⟩ (fun j c h' acc s=>by unfold av;simp[s.2.1 _ _ g0])
  (fun j v c h' acc hv s=>by
   refine bY s fun z1 s1 s2=>?_;clear s;refine eR z1 fun x y z63=>?_;clear z1;subst z63;have hj:=(gS.mp hv).1;rw[pall.1]at hj;refine aM (pall.2 j _ (gE hj)) fun a b1 b2 b3=>?_;have ht:ps.take (j+1)=ps.take j++[ps[j]]:=by (refine DK E1 ?_;refine yF (gE hj) ?_);rfl
   generalize ps[j]=p at *;rw[hv]at b2;refine jR b2 ?_;have b4:=s1 _ _ b3;have hl1:=s1.len;refine⟨[DJ (.str p.1),DJ (.ref a)],_,_,_,rfl,j4 (v:= .tup [.str p.1,.ref h'.length]) (h1:=h'++[.list (aa p.2)]) (by simp only[qG,C2,cG,cO,aw,aA,oB,jY b4]) (by (rewrite[s2.1];refine yF EG ?_);exact bu (nat_lit 397707746519445948865) tt (EE _ _) hcl),⟨_,_,rfl⟩,s1.snoc _,?_⟩;refine yF ht ?_;exact (s2.keep (h':=h'++[.list (aa p.2)]) (fun a o _ e=>ai.push _ _ _ _ e)).snoc (bu (nat_lit 12110030907393) tt hl0 hl1) au)) fun c' h2 acc e uu s2 s3=>?_
 rw[pall.1,Ef]at s3;exact⟨h2.length,acc,h2++[.list acc],e,(k0.trans s2).snoc _,au,s3.keep (h':=h2++[.list acc]) (fun a o _ e=>ai.push _ _ _ _ e)⟩
theorem AG(e1:aC cl a m [] h=DJ (.bool false,h1))(e2:aC cl b m [] h1=DJ (.bool false,h2)):f9 cl (.bop false [a,b]) m h=DJ (false,h2):=by
 exact bs (bs e1 e2) rfl
theorem up(e1:aC cl it m c h=DJ (x,h1))(e2:bZ h1 false x=DJ (vs,gd))(hl:vs.length<=1000)(hg:∀ h2,ai h1 h2->av h2 gd=true)(hs:∀ v∈vs,∀ h2,ai h1 h2->∃ h3,aC cl e m [DJ v] h2=DJ (b,h3)/\ai h2 h3):
  ∃ h2,aC cl (.comp 1 (.one 0) false it (.elt e)) m c h=DJ (.ref h2.length,h2++[.list (D0 vs.length b)])/\ai h1 h2:=by
 refine dH (j3 (cl:=cl) (k:=1) (t:= .one 0) (rng:=false) (it:=it) (g:= .elt e) (m:=m) (c:=c) (h:=h) (h1:=h1) (x:=x) (vs:=vs) (gd:=gd)
  (fun j c h' acc=>(∃ x,c=[x])/\ai h1 h'/\acc=D0 j b) e1 e2 ⟨⟨none,rfl⟩,ai.refl _,rfl⟩ (fun j c h' acc s=>hg _ s.2.1)
  (fun j v c h' acc hv s=>by
   refine bY s fun z1 s1 z3=>?_;clear s;refine aq z1 fun x z62=>?_;clear z1;subst z62;subst z3;have hj:=(gS.mp hv).1;refine af (hs v (D8 hv) h' s1) fun h3 a1 a2=>?_;exact⟨[DJ v],_,_,_,rfl,j4 a1 (by refine yF length_replicate ?_;exact bu (nat_lit 12726647889721782390209) tt hj hl),⟨_,rfl⟩,s1.trans a2,by (refine yF Kq ?_;rfl)⟩)) fun c' h2 acc e uu s2 s3=>?_
 exact⟨h2,by (refine DK e ?_;refine yF s3 ?_;rfl),s2⟩
theorem xQ:bc (h++[.list (D0 n (.bool false))]) (.bool true) (.ref h.length)=DJ false:=by
 unfold bc;simp only[bO];refine yF (show D0 n (AV.bool false)=(D0 n false).map AV.bool from by (refine yF map_replicate ?_;rfl)) ?_;refine DK kN ?_;simp
noncomputable def jE:aZ:=(D0 13 none).set 1 (DJ (AV.ref 0))
theorem sV(g:cn N)(ha:h[a]? =DJ (.list (N.cells.map aj.v)))(hb:h[b]? =DJ (.list (N.cells.map aj.v))):rZ h (.ref a) (.ref b)=DJ true:=by
 refine aq (qa g (h:=h) (n:=20)) fun ds hd=>?_;exact mw (dF (n:=23) ha hd) (dF (n:=23) hb hd) rfl
theorem u7{l:List Nm}{h:Hp}{a b:Nat}(ha:h[a]? =DJ (.list (l.map AV.str)))(hb:h[b]? =DJ (.list (l.map AV.str))):rZ h (.ref a) (.ref b)=DJ true:=
 mw (dF (n:=23) ha (oh (n:=22) _)) (dF (n:=23) hb (oh (n:=22) _)) rfl
theorem kP{cl:aR}{m:aZ}{h:Hp}{L i:Nat}{N:NL}(hst:∀ (H:Hp) (L:Nat) (N:NL),aI H L N->N.cells.length<=1000->∃ a H',cl 44 [.ref (L+1)] H=DJ (.ref a,H')/\ai H H'/\H.length<=a/\H'[a]? =DJ (.list ((eh N.cells).map aj.v)))(q:aI h L N)(g:cn N)(li:∀ h,ek m i h=DJ (.ref (L+1),h)):
  ∃ a h',aC cl (.comp 1 (.one 0) false (.call 44 [(.loc i)]) (.elt (.sub (.sub (.loc 0) (.const (.int 3))) (.neg (.const (.int 2)))))) m [] h=DJ (.ref a,h')/\ai h h'/\h'[a]? =DJ (.list ((bf N.cells).map AV.str)):=by
 refine cp (hst h L N q (by have:=g.small.cc;exact DO this (by decide))) fun sa h1 b1 b2 b3 b4=>?_;have hc:=mP (cl:=cl) (it:= .call 44 [(.loc i)]) (m:=m) (h:=h) (aJ (vs:=[.ref (L+1)]) (h1:=h) (by simp only[aw,aA,oB,bW,li,oB,oM]) b1) b4 (by have:=lC N.cells;have:=g.small.cc;exact bu (nat_lit 397707746519445816769) tt ‹_› this) (kM g);exact⟨_,_,hc,b2.snoc _,au⟩
theorem BG{a:Nat}{xs:List Int}(ha:h[a]? =DJ (.list (aa xs))):pH h .sum [.ref a]=DJ (.int xs.sum,h):=by
 simp only[Bu,fm,ha,hV,oM]
theorem AH(x:Int):∃ s:Nat,s<sH/\(bA .mod x 100003).bind (fun y=>bA .mul y 7)=DJ (s:Int):=by
 have h1:=Int.emod_nonneg x (show (100003:Int)≠0 by decide);have h2:=Int.emod_lt_of_pos x (show (0:Int)<100003 by decide);have e1:bA .mod x 100003=DJ (x % 100003):=by unfold bA;simp only;refine DK (if_pos (by decide)) ?_;rfl
 have e2:bA .mul (x % 100003) 7=DJ (x % 100003 * 7):=by unfold bA fw;simp only;refine DK (if_pos (by lia)) ?_;rfl
 refine⟨(x % 100003 * 7).toNat,by unfold sH;lia,?_⟩;refine yF e1 ?_;dsimp only[oB];refine DK e2 ?_;congr 1;lia
theorem xR(M:zV)(zs:List Int)(hz:zs.length<=63):∃ m' H',cF (ad P 1000 20) 1000 (pI.body.drop 1) jE [.list ((zs.take 63).map .int)]=DJ (.ret (.bool true),m',H'):=by
 suffices hs:Ok (cF (ad P 1000 20) 1000 (pI.body.drop 1) jE [.list ((zs.take 63).map .int)]) (fun f _ _=>f= .ret (.bool true)) by
  refine lb hs fun f m h e z5=>?_;clear hs;subst z5;exact⟨m,h,e⟩
 have hnet:∀ {r kd:Nat} {H:Hp},cL H r->H[kd]? =DJ (.list (fe.map .str))->kd≠r->∃ L h' N,ad P 1000 20 43 [.ref r,.int 10,.int 2,.ref kd] H=DJ (.ref (L+1),h')/\aI h' L N/\cn N/\(∀ k o,k≠r->H[k]? =DJ o->h'[k]? =DJ o)/\H.length<=L:=fun a b c=>wf (n:=16) a b c;have hpat:∀ {L:Nat} {N:NL} {H:Hp},aI H L N->cn N->∃ a rows pat H',ad P 1000 20 45 [.ref (L+1)] H=DJ (.tup [.ref a,.int (2 ^ rows - 1:Nat)],H')/\ai H H'/\ji H' a pat (de N) rows/\rows<=64:=fun a b=>uj (n:=18) a b;have hfold:∀ {L:Nat} {N:NL} {H:Hp},aI H L N->cn N->∃ R L' H',ad P 1000 20 36 [.ref (L+1)] H=DJ (.ref (L'+1),H')/\cP N.cells R/\aI H' L' (lH N R)/\ai H H':=fun {L N H} a g=>by
  refine aq g.rk fun rk hr=>?_;exact mr (n:=10) a g.small g.nd rk hr (M.fo N g)
 have hdrop:∀ {L:Nat} {N:NL} {H:Hp},aI H L N->cn N->∃ R L' H',ad P 1000 20 37 [.ref (L+1)] H=DJ (.ref (L'+1),H')/\cP N.cells R/\aI H' L' (oz N R)/\ai H H':=fun {L N H} a g=>by
  refine aq g.rk fun rk hr=>?_;exact n9 (n:=15) a g.small g.nd rk hr (M.do_ N g)
 have hun:∀ {L:Nat} {N:NL} {H:Hp},aI H L N->cn N->∃ S L' H',ad P 1000 20 39 [.ref (L+1)] H=DJ (.ref (L'+1),H')/\dN N S/\aI H' L' (kb N S)/\ai H H':=fun a g=>pv (n:=16) a g.small g.nd;have hkept:∀ {Lo Ln pa rows:Nat} {No Nn:NL} {H:Hp} {pat:AV->Nat},aI H Lo No->aI H Ln Nn->cn No->Tr No Nn->ji H pa pat (de No) rows->∃ H',ad P 1000 20 49 [.ref (Lo+1),.ref (Ln+1),.ref pa,.int (2 ^ rows - 1:Nat)] H=DJ (.bool true,H')/\ai H H':=fun a b c d e=>AE (n:=15) a b c d.good e (fun k hk=>hk) d.keys (fun W W' h h'=>d.kept h h');have hst:∀ (H:Hp) (L:Nat) (N:NL),aI H L N->N.cells.length<=1000->∃ a H',ad P 1000 20 44 [.ref (L+1)] H=DJ (.ref a,H')/\ai H H'/\H.length<=a/\H'[a]? =DJ (.list ((eh N.cells).map aj.v)):=fun H L N a b=>lA (n:=19) a b;have hfb:∀ {c:aj} {H:Hp},bX c.kind c.ins->∃ T,ad P 1000 20 50 [c.v] H=DJ (.bool false,H++T):=fun a=>un (n:=19) a;have hus:∀ {L:Nat} {N:NL} {H:Hp} {S:List Nat},aI H L N->cn N->dN N S->∃ a H',ad P 1000 20 51 [.ref (L+1)] H=DJ (.ref a,H')/\ai H H'/\H'[a]? =DJ (.list ((aG N.cells S).map aj.v)):=fun a g u=>AF (n:=19) a g.small g.outsNd u;generalize ad P 1000 20=cl at *;have hst0:jE=[none,DJ (.ref 0),none,none,none,none,none,none,none,none,none,none,none]:=rfl;refine yF hst0 ?_;unfold pI;simp only[drop_succ_cons,HS,Cc,zS,As,t5,Ar,Bg,C5,C6,BB,xl,xm];generalize zs.take 63=xs;change Ok (cF cl 1000 _ _ [.list (aa xs)]) _;have g0:([AO.list (aa xs)]:Hp)[0]? =DJ (.list (aa xs)):=rfl;refine af (AH xs.sum) fun s hs hseed=>?_;refine ac (v:= .ref 1) (h1:=[.list (aa xs),.list [.ref 0,.int 0,.int 0,.int s,.int 0]]) (m1:=[none,DJ (.ref 0),DJ (.ref 1),none,none,none,none,none,none,none,none,none,none]) (by
  cases hm:bA .mod xs.sum 100003 with
  | none=>rw[hm]at hseed;cases hseed
  | some y=>
   rw[hm,oB]at hseed;simp only[bd,aB,aU,jQ,pf,cO,aw,aA,ec,oB,oM,BG g0,hm,hseed];rfl) rfl ?_
 have hh:cL [.list (aa xs),.list [.ref 0,.int 0,.int 0,.int s,.int 0],.list (fe.map .str)] 1:=⟨0,xs,0,0,s,.int 0,rfl,rfl,Gz _,hs,by decide⟩;refine iC (hnet (kd:=2) hh rfl (by decide)) fun L h3 N n1 n2 g n4 n5=>?_;refine ac (v:= .ref (L+1)) (h1:=h3) (m1:=[none,DJ (.ref 0),DJ (.ref 1),DJ (.ref (L+1)),none,none,none,none,none,none,none,none,none]) (aJ (vs:=[.ref 1,.int 10,.int 2,.ref 2]) (h1:=[.list (aa xs),.list [.ref 0,.int 0,.int 0,.int s,.int 0],.list (fe.map .str)]) rfl n1) rfl ?_;clear hh n1 n4 n5 hnet g0 hseed;have at3:=n2.attr;have k31:=ai.push h3 [.list (N.cells.map aj.v)];have c31:(h3++[AO.list (N.cells.map aj.v)])[h3.length]? =DJ (.list (N.cells.map aj.v)):=au;refine dH (qc (cl:=cl) (m:=[none,DJ (.ref 0),DJ (.ref 1),DJ (.ref (L+1)),none,none,none,none,none,none,none,none,none]) (n2.keep k31) g.small (fun h=>rfl)) fun ha hv h4 e1 e2 e3 e4=>?_;have at4:=((n2.keep k31).keep e2).attr;refine ac (v:= .ref h4.length) (h1:=h4++[.list [.ref h3.length,.ref ha,.int N.count]]) (m1:=[none,DJ (.ref 0),DJ (.ref 1),DJ (.ref (L+1)),DJ (.ref h4.length),none,none,none,none,none,none,none,none]) (lw (aL (v:= .ref h3.length) (h1:=h3++[.list (N.cells.map aj.v)]) (by simp only[aB,aU,cV,cO,aw,aA,oB,at3,jY n2.cel]) (aL e1 (aL (v:= .int N.count) (h1:=h4) (by simp only[aB,aU,cV,oB,at4]) dk)))) rfl ?_;have k5:=ai.push h4 [.list [.ref h3.length,.ref ha,.int N.count]];have gh:(h4++[AO.list [.ref h3.length,.ref ha,.int N.count]])[h4.length]? =DJ (.list [.ref h3.length,.ref ha,.int N.count]):=au;have q5:=((n2.keep k31).keep e2).keep k5;have c5:=k5 _ _ (e2 _ _ c31);have v5:=k5 _ _ e3;have p5:=e4.keep (h':=h4++[.list [.ref h3.length,.ref ha,.int N.count]]) (fun a o _ e=>k5 _ _ e);clear e1 at3 at4 c31 e2 e3 e4 n2 k31 k5;generalize h3.length=ca at *;generalize h4.length=hd at *;generalize h4++[AO.list [.ref ca,.ref ha,.int N.count]]=h5 at *;refine Ab (hpat q5 g) fun pa rows pat h6 a1 k6 pp uu=>?_;refine ac (v:= .tup [.ref pa,.int (2 ^ rows - 1:Nat)]) (h1:=h6) (m1:=[none,DJ (.ref 0),DJ (.ref 1),DJ (.ref (L+1)),DJ (.ref hd),DJ (.ref pa),DJ (.int (2 ^ rows - 1:Nat)),none,none,none,none,none,none]) (aJ (vs:=[.ref (L+1)]) (h1:=h5) rfl a1) rfl ?_;refine dH (hfold (q5.keep k6) g) fun R1 Lb h7 b1 b2 b3 k7=>?_;refine bY (M.fg N g R1 b2) fun tb nfb nmb=>?_;refine ac (v:= .ref (Lb+1)) (h1:=h7) (m1:=[none,DJ (.ref 0),DJ (.ref 1),DJ (.ref (L+1)),DJ (.ref hd),DJ (.ref pa),DJ (.int (2 ^ rows - 1:Nat)),DJ (.ref (Lb+1)),none,none,none,none,none]) (aJ (vs:=[.ref (L+1)]) (h1:=h6) rfl b1) rfl ?_;refine dH (hdrop ((q5.keep k6).keep k7) g) fun R2 Ld h8 d1 d2 d3 k8=>?_;refine bY (M.dg N g R2 d2) fun td nbd nmd=>?_;refine ac (v:= .ref (Ld+1)) (h1:=h8) (m1:=[none,DJ (.ref 0),DJ (.ref 1),DJ (.ref (L+1)),DJ (.ref hd),DJ (.ref pa),DJ (.int (2 ^ rows - 1:Nat)),DJ (.ref (Lb+1)),DJ (.ref (Ld+1)),none,none,none,none]) (aJ (vs:=[.ref (L+1)]) (h1:=h7) rfl d1) rfl ?_;refine dH (hun (((q5.keep k6).keep k7).keep k8) g) fun Su Lu h9 u1 u2 u3 k9=>?_;refine bY (M.ug N g Su u2) fun tu cu uu=>?_;refine ac (v:= .ref (Lu+1)) (h1:=h9) (m1:=[none,DJ (.ref 0),DJ (.ref 1),DJ (.ref (L+1)),DJ (.ref hd),DJ (.ref pa),DJ (.int (2 ^ rows - 1:Nat)),DJ (.ref (Lb+1)),DJ (.ref (Ld+1)),DJ (.ref (Lu+1)),none,none,none]) (aJ (vs:=[.ref (L+1)]) (h1:=h8) rfl u1) rfl ?_;have q9:=(((q5.keep k6).keep k7).keep k8).keep k9;have b9:=(b3.keep k8).keep k9;have d9:=d3.keep k9;have pp9:=((pp.keep k7).keep k8).keep k9;have k59:=((k6.trans k7).trans k8).trans k9;have gh9:=k59 _ _ gh;have c9:=k59 _ _ c5;have v9:=k59 _ _ v5;have p9:=p5.keep (h':=h9) (fun a o _ e=>k59 _ _ e);clear a1 b1 b3 d1 d3 u1 q5 pp gh c5 v5 p5 k6 k7 k8 k9 k59;generalize hfull:2 ^ rows - 1=full at *;have gf:(h9++[AO.list [.ref (Lb+1),.ref (Ld+1),.ref (Lu+1)]])[h9.length]? =DJ (.list [.ref (Lb+1),.ref (Ld+1),.ref (Lu+1)]):=au;let St1:Nat->aZ->Hp->Prop:=fun j m h=>(∃ x,m=[none,DJ (.ref 0),DJ (.ref 1),DJ (.ref (L+1)),DJ (.ref hd),DJ (.ref pa),DJ (.int full),DJ (.ref (Lb+1)),DJ (.ref (Ld+1)),DJ (.ref (Lu+1)),x,none,none])/\ai (h9++[.list [.ref (Lb+1),.ref (Ld+1),.ref (Lu+1)]]) h
 refine dM (x:= .ref h9.length) (vs:=[.ref (Lb+1),.ref (Ld+1),.ref (Lu+1)]) (gd:=DJ (h9.length,.list [.ref (Lb+1),.ref (Ld+1),.ref (Lu+1)])) (h1:=h9++[.list [.ref (Lb+1),.ref (Ld+1),.ref (Lu+1)]]) St1
  rfl (aF _ _ _ gf) ⟨⟨none,rfl⟩,ai.refl _⟩ (fun j m h _ s=>by unfold av;simp[s.2 _ _ gf]) ?_ ?_
 ·intro j v m h hv z6;refine am z6 fun z190 a1=>?_;clear z6;refine aq z190 fun x z251=>?_;clear z190;subst z251;refine⟨[none,DJ (.ref 0),DJ (.ref 1),DJ (.ref (L+1)),DJ (.ref hd),DJ (.ref pa),DJ (.int full),DJ (.ref (Lb+1)),DJ (.ref (Ld+1)),DJ (.ref (Lu+1)),DJ v,none,none],rfl,?_⟩;have k1:ai h9 h:=(ai.push _ _).trans a1;have hvm:=D8 hv;obtain⟨h',e1,e2⟩:∃ h',cl 49 [.ref (L+1),v,.ref pa,.int full] h=DJ (.bool true,h')/\ai h h':=by
   simp only[ER,EW,or_false]at hvm;refine yB hfull ?_;rcases hvm with rfl | rfl | rfl
   ·exact hkept (q9.keep k1) (b9.keep k1) g tb (pp9.keep k1)
   ·exact hkept (q9.keep k1) (d9.keep k1) g td (pp9.keep k1)
   ·exact hkept (q9.keep k1) (u3.keep k1) g tu (pp9.keep k1)
  refine fH (h1:=h') (by simp only[aB,aU,Ag,ej,aw,aA,cW,cq,oB,e1,ET]) (aN ⟨by simp,⟨_,rfl⟩,a1.trans e2⟩)
 ·intro m h z3;refine am z3 fun z100 a1=>?_;clear z3;refine aq z100 fun x z161=>?_;clear z100;subst z161;have k1:ai h9 h:=(ai.push _ _).trans a1;have q9:=q9.keep k1;have b9:=b9.keep k1;have d9:=d9.keep k1;have u9:=u3.keep k1;have pp9:=pp9.keep k1;have gh9:=k1 _ _ gh9;have c9:=k1 _ _ c9;have v9:=k1 _ _ v9;have p9:=p9.keep (h':=h) (fun a o _ e=>k1 _ _ e);clear a1 k1 u3 gf;refine aW (kP (cl:=cl) (i:=3) (m:=[none,DJ (.ref 0),DJ (.ref 1),DJ (.ref (L+1)),DJ (.ref hd),DJ (.ref pa),DJ (.int full),DJ (.ref (Lb+1)),DJ (.ref (Ld+1)),DJ (.ref (Lu+1)),x,none,none]) hst q9 g (fun h=>rfl)) fun na h10 e1 k10 e3=>?_;refine ac (m1:=[none,DJ (.ref 0),DJ (.ref 1),DJ (.ref (L+1)),DJ (.ref hd),DJ (.ref pa),DJ (.int full),DJ (.ref (Lb+1)),DJ (.ref (Ld+1)),DJ (.ref (Lu+1)),x,DJ (.ref na),none]) e1 rfl ?_;refine aW (kP (cl:=cl) (i:=7) (m:=[none,DJ (.ref 0),DJ (.ref 1),DJ (.ref (L+1)),DJ (.ref hd),DJ (.ref pa),DJ (.int full),DJ (.ref (Lb+1)),DJ (.ref (Ld+1)),DJ (.ref (Lu+1)),x,DJ (.ref na),none]) hst (b9.keep k10) tb.good (fun h=>rfl)) fun nb h11 f1 k11 f3=>?_;refine aW (kP (cl:=cl) (i:=8) (m:=[none,DJ (.ref 0),DJ (.ref 1),DJ (.ref (L+1)),DJ (.ref hd),DJ (.ref pa),DJ (.int full),DJ (.ref (Lb+1)),DJ (.ref (Ld+1)),DJ (.ref (Lu+1)),x,DJ (.ref na),none]) hst ((d9.keep k10).keep k11) td.good (fun h=>rfl)) fun nd h12 i1 k12 i3=>?_;rw[nmb]at f3;rw[nmd]at i3;have eq1:=u7 f3 (k11 _ _ e3);have eq2:=u7 i3 (k12 _ _ (k11 _ _ e3));refine fH (h1:=h12) (AG (h1:=h11) (fK (y:= .ref na) (h2:=h11) (r:=false) f1 rfl (by simp only[se,oM,eq1,oM,ET])) (fK (y:= .ref na) (h2:=h12) (r:=false) i1 rfl (by simp only[se,oM,eq2,oM,ET]))) ?_;have k2:=(k10.trans k11).trans k12;have q9:=q9.keep k2;have b9:=b9.keep k2;have d9:=d9.keep k2;have u9:=u9.keep k2;have pp9:=pp9.keep k2;have gh9:=k2 _ _ gh9;have c9:=k2 _ _ c9;have v9:=k2 _ _ v9;have p9:=p9.keep (h':=h12) (fun a o _ e=>k2 _ _ e);clear e1 f1 i1 eq1 eq2 e3 f3 i3 k10 k11 k12 k2;have atb:=b9.attr;refine af (up (cl:=cl) (b:= .bool false) (it:= .attr (.loc 7) fZ) (e:= .call 50 [(.loc 0)]) (m:=[none,DJ (.ref 0),DJ (.ref 1),DJ (.ref (L+1)),DJ (.ref hd),DJ (.ref pa),DJ (.int full),DJ (.ref (Lb+1)),DJ (.ref (Ld+1)),DJ (.ref (Lu+1)),x,DJ (.ref na),none]) (c:=[]) (h:=h12) (h1:=h12) (x:= .ref (Lb+4)) (by simp only[aB,aU,cV,oB,atb]) (aF _ _ _ b9.cel) (by refine yF (DR _) ?_;have:=tb.good.small.cc;exact DO this (by decide)) (fun h2 k=>by unfold av;simp[k _ _ b9.cel]) (fun v hv h2 k=>by
   refine af (Es.mp hv) fun c hc z3=>?_;subst z3;refine aq (hfb (H:=h2) (nfb c hc)) fun T hT=>?_;exact⟨h2++T,by simp only[qG,ej,aw,aA,oB,hT],ai.push _ _⟩)) fun h13 j1 k13=>?_
  have k14:=k13.snoc [.list (D0 ((lH N R1).cells.map aj.v).length (.bool false))];have hin1:=xQ (h:=h13) (n:=((lH N R1).cells.map aj.v).length);generalize hrep:h13++[AO.list (D0 ((lH N R1).cells.map aj.v).length (.bool false))]=h14 at *;have d14:=d9.keep k14;have atd:=d14.attr;have hkc:=eN (cl:=cl) (rng:=false) (it:= .attr (.loc 8) fZ) (e:= .sub (.loc 0) (.const (.int 0))) (m:=[none,DJ (.ref 0),DJ (.ref 1),DJ (.ref (L+1)),DJ (.ref hd),DJ (.ref pa),DJ (.int full),DJ (.ref (Lb+1)),DJ (.ref (Ld+1)),DJ (.ref (Lu+1)),x,DJ (.ref na),none]) (c:=[]) (h:=h14) (h1:=h14) (oz N R2).cells aj.v (fun c=> .str c.kind) (x:= .ref (Ld+4)) (by simp only[aB,aU,cV,oB,atd]) (aF _ _ _ d14.cel) (by unfold av;simp[d14.cel]) (by have:=td.good.small.cc;exact DO this (by decide)) (fun c hc=>by unfold aj.v;simp only[bd,qG,bD,cQ,iW,oB]);have hks:(oz N R2).cells.map (fun c=>AV.str c.kind)=((oz N R2).cells.map (·.kind)).map AV.str:=by rewrite[map_map];rfl
  rw[hks]at hkc;have hin2:bc (h14++[.list (((oz N R2).cells.map (·.kind)).map AV.str)]) (.str aP) (.ref h14.length)=DJ false:=by
   unfold bc;simp only[bO,mu];congr 1;rewrite[decide_eq_false_iff_not];intro hm;refine af (Es.mp hm) fun c hc e=>?_;exact nbd c hc e
  have k15:=ai.push h14 [.list (((oz N R2).cells.map (·.kind)).map AV.str)];generalize hrep2:h14++[AO.list (((oz N R2).cells.map (·.kind)).map AV.str)]=h15 at *;refine fH (h1:=h15) (AG (h1:=h14) (fK (x:= .bool true) (h1:=h12) (y:= .ref h13.length) (h2:=h14) (r:=false) rfl j1 (by simp only[kF,hin1])) (fK (x:= .str aP) (h1:=h14) (y:= .ref h14.length) (h2:=h15) (r:=false) rfl hkc (by simp only[kF,hin2]))) ?_;have k2:=k14.trans k15;have q9:=q9.keep k2;have b9:=b9.keep k2;have u9:=u9.keep k2;have pp9:=pp9.keep k2;have gh9:=k2 _ _ gh9;have c9:=k2 _ _ c9;have v9:=k2 _ _ v9;have p9:=p9.keep (h':=h15) (fun a o _ e=>k2 _ _ e);clear j1 k13 k14 hin1 d14 atd hkc hin2 k15 k2 hrep hrep2 d9 atb;refine aW (hus q9 g u2) fun ua h16 l1 k16 l3=>?_;have atu:=u9.attr;have u16:=k16 _ _ u9.cel;rw[<- cu]at l3;have eq3:=sV tu.good u16 l3;refine fH (h1:=h16) (j0 (fK (x:= .ref (Lu+4)) (h1:=h15) (y:= .ref ua) (h2:=h16) (r:=false) (by simp only[aB,aU,cV,oB,atu]) (aJ (vs:=[.ref (L+1)]) (h1:=h15) rfl l1) (by simp only[se,oM,eq3,oM,ET]))) ?_;have q9:=q9.keep k16;have b9:=b9.keep k16;have pp9:=pp9.keep k16;have gh9:=k16 _ _ gh9;have c9:=k16 _ _ c9;have v9:=k16 _ _ v9;have p9:=p9.keep (h':=h16) (fun a o _ e=>k16 _ _ e);clear l1 l3 u16 eq3 atu u9 k16;refine dH (hdrop b9 tb.good) fun R3 Lx h17 r1 r2 r3 k17=>?_;refine bY (M.dg _ tb.good R3 r2) fun tx uu uu=>?_;refine dH (hun r3 tx.good) fun Sl Ll h18 s1 s2 s3 k18=>?_;refine bY (M.ug _ tx.good Sl s2) fun tl cl1 cl2=>?_;refine ac (v:= .ref (Ll+1)) (h1:=h18) (m1:=[none,DJ (.ref 0),DJ (.ref 1),DJ (.ref (L+1)),DJ (.ref hd),DJ (.ref pa),DJ (.int full),DJ (.ref (Lb+1)),DJ (.ref (Ld+1)),DJ (.ref (Lu+1)),x,DJ (.ref na),DJ (.ref (Ll+1))]) (aJ (vs:=[.ref (Lx+1)]) (h1:=h17) (aL (aJ (vs:=[.ref (Lb+1)]) (h1:=h16) rfl r1) dk) s1) rfl ?_;have k2:=k17.trans k18;have q9:=q9.keep k2;have pp9:=pp9.keep k2;have gh9:=k2 _ _ gh9;have c9:=k2 _ _ c9;have v9:=k2 _ _ v9;have p9:=p9.keep (h':=h18) (fun a o _ e=>k2 _ _ e);clear r1 s1 k17 k18 k2 r3 b9;have tall:=(tb.trans tx).trans tl;generalize kb (oz (lH N R1) R3) Sl=NLs at *;refine af (hkept q9 s3 g tall pp9) fun h19 w1 k19=>?_;rw[hfull]at w1;have s19:=s3.keep k19;obtain⟨Sz,lz,hz1,z1,z2,_,_⟩:∃ Sz r M H',dN NLs Sz/\True/\True/\True:=by
   refine wN (lu (n:=0) s19 tall.good.small tall.good.nd) fun S r M H' uu u uu=>?_;exact⟨S,r,M,H',u,trivial,trivial,trivial⟩
  refine aW (hus s19 tall.good z2) fun va h20 y1 k20 y3=>?_;rw[cl2 Sz z2]at y3;have eq4:=sV tall.good (k20 _ _ s19.cel) y3;have atl:=s19.attr;refine fH (h1:=h20) (AG (h1:=h19) (by simp only[aB,aU,Ag,ej,aw,aA,cq,oB,w1,ET]) (fK (x:= .ref (Ll+4)) (h1:=h19) (y:= .ref va) (h2:=h20) (r:=false) (by simp only[aB,aU,cV,oB,atl]) (aJ (vs:=[.ref (Ll+1)]) (h1:=h19) rfl y1) (by simp only[se,oM,eq4,oM,ET]))) ?_;have k2:=k19.trans k20;have q9:=q9.keep k2;have gh9:=k2 _ _ gh9;have c9:=k2 _ _ c9;have v9:=k2 _ _ v9;have p9:=p9.keep (h':=h20) (fun a o _ e=>k2 _ _ e);refine dH (qc (cl:=cl) (m:=[none,DJ (.ref 0),DJ (.ref 1),DJ (.ref (L+1)),DJ (.ref hd),DJ (.ref pa),DJ (.int full),DJ (.ref (Lb+1)),DJ (.ref (Ld+1)),DJ (.ref (Lu+1)),x,DJ (.ref na),DJ (.ref (Ll+1))]) q9 g.small (fun h=>rfl)) fun ha2 hv2 h21 t1 t2 t3 t4=>?_;have at20:=q9.attr;have q21:=q9.keep t2;have at21:=q21.attr;have k22:=ai.push h21 [.list [.ref (L+4),.ref ha2,.int N.count]];have gl2:(h21++[AO.list [.ref (L+4),.ref ha2,.int N.count]])[h21.length]? =DJ (.list [.ref (L+4),.ref ha2,.int N.count]):=au;have q22:=q21.keep k22;have gh22:=k22 _ _ (t2 _ _ gh9);have c22:=k22 _ _ (t2 _ _ c9);have v22:=k22 _ _ (t2 _ _ v9);have p22:=p9.keep (h':=h21++[.list [.ref (L+4),.ref ha2,.int N.count]]) (fun a o _ e=>k22 _ _ (t2 _ _ e));have v23:=k22 _ _ t3;have p23:=t4.keep (h':=h21++[.list [.ref (L+4),.ref ha2,.int N.count]]) (fun a o _ e=>k22 _ _ e);have hlist:=lw (cl:=cl) (m:=[none,DJ (.ref 0),DJ (.ref 1),DJ (.ref (L+1)),DJ (.ref hd),DJ (.ref pa),DJ (.int full),DJ (.ref (Lb+1)),DJ (.ref (Ld+1)),DJ (.ref (Lu+1)),x,DJ (.ref na),DJ (.ref (Ll+1))]) (c:=[]) (aL (e:= .attr (.loc 3) fZ) (v:= .ref (L+4)) (h:=h20) (h1:=h20) (by simp only[aB,aU,cV,oB,at20]) (aL t1 (aL (e:= .attr (.loc 3) iX) (v:= .int N.count) (h1:=h21) (by simp only[aB,aU,cV,oB,at21]) dk)));generalize h21++[AO.list [.ref (L+4),.ref ha2,.int N.count]]=h22 at *;refine aq (qa g (h:=h22) (n:=19)) fun ds hds=>?_;have r1:res h22 dn (.ref hd)=DJ (.list [.list ds,.list ((N.inputs++N.outputs).map xM),.int N.count]):=dF (n:=23) gh22 (pX (dF (n:=22) c22 hds) (j5 (n:=18) p22 v22) (by rfl));have r2:res h22 dn (.ref h21.length)=DJ (.list [.list ds,.list ((N.inputs++N.outputs).map xM),.int N.count]):=dF (n:=23) gl2 (pX (dF (n:=22) q22.cel hds) (j5 (n:=18) p23 v23) (by rfl));have eq5:=mw r1 r2 rfl;exact bK (v:= .bool true) (h1:=h22) (fK (x:= .ref hd) (h1:=h20) (y:= .ref h21.length) (h2:=h22) rfl hlist (by simp only[bt,eq5])) rfl
section
noncomputable def xS(k:Nat):Bool:=(Ec (2 ^ 2 ^ k)).all fun t=>(Ec (2 ^ k)).all fun row=>t.testBit row == (shrinkS t k (2 ^ (cI t k).length)).testBit (cJ ((cI t k).map fun p=>row.testBit p))
noncomputable def xT(k:Nat):Bool:=(Ec (2 ^ 2 ^ k)).all fun t=>(cI t k).length != 1 || (shrinkS t k 2 == 1 || shrinkS t k 2 == 2)
theorem wl:∀ k,k<=3->xS k=true:=by
 intro k hk;have:=B3 hk;rcases this with rfl | rfl | rfl | rfl
 ·decide+kernel
 ·decide+kernel
 ·decide+kernel
 ·decide+kernel
theorem wm:∀ k,k<=3->xT k=true:=by
 intro k hk;have:=B3 hk;rcases this with rfl | rfl | rfl | rfl
 ·decide+kernel
 ·decide+kernel
 ·decide+kernel
 ·decide+kernel
noncomputable def tb(k:Nm)(p:AV)(bs:List Bool):Bool:=(eJ k p).testBit (cJ bs)
noncomputable def wn(F:F3)(v:Int->Bool):Bool:=tb F.kind F.param (F.ins.map v)
theorem cM(b:Bool):tb aP .none [b]=b:=by cases b<;>decide
theorem ip(b:Bool):tb bC .none [b]= !b:=by cases b<;>decide
theorem uq(a b:Bool):tb eH .none [a,b]=(a&&b):=by cases a<;>cases b<;>decide
theorem xU(a b:Bool):tb kI .none [a,b]=(a || b):=by cases a<;>cases b<;>decide
theorem ur(a b:Bool):tb fj .none [a,b]=(a ^^ b):=by cases a<;>cases b<;>decide
theorem u8(a b:Bool):tb fq .none [a,b]= !(a&&b):=by cases a<;>cases b<;>decide
theorem xV(a b:Bool):tb jj .none [a,b]= !(a || b):=by cases a<;>cases b<;>decide
theorem vd(a b:Bool):tb gM .none [a,b]= !(a ^^ b):=by cases a<;>cases b<;>decide
theorem xW(s a b:Bool):tb ef .none [s,a,b]=(if s then b else a):=by cases s<;>cases a<;>cases b<;>decide
theorem xX(t:Nat)(bs:List Bool):tb df (.int t) bs=t.testBit (cJ bs):=by unfold tb eJ;simp
theorem ve(t:Nat)(nm:Nm)(bs:List Bool):tb bU (.tup [.str nm,.int t]) bs=t.testBit (cJ bs):=by unfold tb eJ;simp
theorem oA(a n:Nat):a / 2 ^ n &&& 1=(a.testBit n).toNat:=by
 refine DK (Nat.and_one_is_mod _) ?_;refine yF Hb ?_;have:a / 2 ^ n % 2<2:=Jl _ (by decide);by_cases h:a / 2 ^ n % 2=1
 ·simp[h]
 ·have:a / 2 ^ n % 2=0:=(fun {n}=>Nat.mod_two_ne_one.mp) h;simp[this]
theorem wo(t:Nat)(ins kept:List Int)(row:Nat):∀ n,(hO t ins kept n).testBit row=(decide (row<n)&&kg t ins kept row):=by
 intro n;induction n with
 | zero=>refine DK (Nat.zero_testBit _) ?_;simp
 | succ n ih=>
  have hlt:=ll t ins kept n;rewrite[qS];refine yF (L2 _ _) ?_;refine yF (JF _ _) ?_;refine DK ((Nat.testBit_two_pow_mul_add _ hlt) _) ?_;by_cases h:row<n
  ·refine DK (if_pos h) ?_;refine DK ih ?_;have e1:decide (row<n+1)=true:=by simp;exact Eg h
   refine yF e1 ?_;simp[h]
  ·refine DK (if_neg h) ?_;by_cases h2:row=n
   ·subst h2;refine yF (EH _) ?_;cases kg t ins kept row<;>simp
   ·have e1:decide (row<n+1)=false:=by simp;lia
    refine yF e1 ?_;have:row - n≠0:=by lia
    obtain⟨m,hm⟩:∃ m,row - n=m+1:=⟨row - n - 1,Ot (Nat.succ_pred_eq_of_ne_zero this)⟩;refine yF hm ?_;cases kg t ins kept n<;>simp[JY]
section
variable {v:Int->Bool} (h0:v 0=false) (h1:v 1=true)
include h0 h1
theorem xY{kept:List Int}{x:Int}(hx:x=0\/x=1\/x∈kept):nR kept (cJ (kept.map v)) x=(v x).toNat:=by
 unfold nR;by_cases h01:x=0\/x=1
 ·refine DK (if_pos h01) ?_;rcases h01 with rfl | rfl
  ·refine yF h0 ?_;rfl
  ·refine yF h1 ?_;rfl
 ·refine DK (if_neg h01) ?_;refine DK (oA _ _) ?_;refine yF (lD _ _) ?_;have hin:x∈kept:=by
   rcases hx with q | q | q
   ·exact absurd (Ed q) h01
   ·exact absurd (Ew q) h01
   ·exact q
  have hi:=GT.mpr hin;refine yF Ei ?_;refine yF DX ?_;refine yF (gE hi) ?_;refine yF (I7 hi) ?_;rfl
theorem wp{t:Nat}{ins kept:List Int}(hm:∀ x∈ins,x=0\/x=1\/x∈kept):kg t ins kept (cJ (kept.map v))=t.testBit (cJ (ins.map v)):=by
 have:nz (cz ins kept (cJ (kept.map v)))=ins.map v:=by
  unfold nz cz;refine yF map_map ?_;apply EX;intro x hx;simp only[HQ];refine yF (xY h0 h1 (hm x hx)) ?_;cases v x<;>rfl
 unfold kg;refine yF this ?_;refine yF (oA _ _) ?_;cases t.testBit (cJ (ins.map v))<;>rfl
theorem wq{t:Nat}{ins:List Int}(hn:∀ x∈ins,0<=x):(fb t ins).testBit (cJ ((aS ins).map v))=t.testBit (cJ (ins.map v)):=by
 unfold fb;rewrite[wo];have hlt:=lk ((aS ins).map v);rw[DR]at hlt;refine yF (wp h0 h1 (fun x hx=>by
  have:=hn x hx;by_cases q:x>1
  ·exact Ew (Ew ((kJ ins x).mpr ⟨hx,q⟩))
  ·lia)) ?_
 simp[hlt]
theorem zj{t:Nat}{ins:List Int}(hl:ins.length<=3)(hn:∀ x∈ins,0<=x):(fO t ins).testBit (cJ ((bP t ins).map v))=t.testBit (cJ (ins.map v)):=by
 have hk:(aS ins).length<=3:=DO (gO ins) hl;refine DK ?_ (wq h0 h1 hn);have hc:=wl _ hk;have hs:fb t ins<2 ^ 2 ^ (aS ins).length:=ll _ _ _ _;have hr:=lk ((aS ins).map v);rw[DR]at hr;unfold xS at hc;rw[Fc]at hc;have hc:=hc _ (E7.mpr hs);rw[Fc]at hc;have hc:=hc _ (E7.mpr hr);rw[beq_iff_eq]at hc;refine yF hc ?_;have:(bP t ins).map v=(cI (fb t ins) (aS ins).length).map fun p=>(cJ ((aS ins).map v)).testBit p:=by
  unfold bP b0;refine DK map_map ?_;apply EX;intro p hp;have hpk:=gL hp;simp only[HQ];refine yF (lD _ _) ?_;refine yF Ei ?_;refine yF Ei ?_;refine yF DX ?_;refine yF (gE hpk) ?_;rfl
 refine yF this ?_;rfl
theorem qd{t:Nat}{ins:List Int}(hl:ins.length<=3)(hn:∀ x∈ins,0<=x):wn (aE t ins) v=t.testBit (cJ (ins.map v)):=by
 have hk:(aS ins).length<=3:=DO (gO ins) hl;refine DK ?_ (zj h0 h1 hl hn);have hL:=wm _ hk;have hs:fb t ins<2 ^ 2 ^ (aS ins).length:=ll _ _ _ _;unfold xT at hL;rw[Fc]at hL;have hL:=hL _ (E7.mpr hs);unfold aE wn;by_cases e0:(bP t ins).length=0
 ·refine yF (if_pos (by simp[e0])) ?_;have hnil:bP t ins=[]:=Gb.mp e0;refine yF hnil ?_;have:(fO t ins &&& 1)=((fO t ins).testBit 0).toNat:=by have:=oA (fO t ins) 0;simpa using this
  simp only[this,mC,mN];refine DK (cM _) ?_;have hr:cJ []=0:=rfl;refine yF hr ?_;cases (fO t ins).testBit 0
  ·exact h0
  ·exact h1
 ·refine yF (if_neg (by simpa using e0)) ?_;by_cases e1:(bP t ins).length=1
  ·refine yF (if_pos (by simp[e1])) ?_;obtain⟨x,hx⟩:∃ x,bP t ins=[x]:=by
    match h:bP t ins,e1 with
    | [x],_=>exact ⟨x,rfl⟩
   have hsl:(cI (fb t ins) (aS ins).length).length=1:=by
    unfold bP b0 at e1;rw[DR]at e1;exact e1
   have hres:fO t ins=shrinkS (fb t ins) (aS ins).length 2:=by unfold fO b0;refine yF hsl ?_;rfl
   rw[hsl]at hL;simp only[bne_self_eq_false,I8,E4,beq_iff_eq]at hL;rw[<- hres]at hL;refine yF hx ?_;rcases hL with hL | hL
   ·refine yF hL ?_;refine yF (if_neg (by decide)) ?_;simp only[mC,mN];refine DK (ip _) ?_;cases v x<;>decide
   ·refine yF hL ?_;refine yF (if_pos rfl) ?_;simp only[mC,mN];refine DK (cM _) ?_;cases v x<;>decide
  ·refine yF (if_neg (by simpa using e1)) ?_;refine yF (xX _ _) ?_;rfl
theorem zk{t:Nat}{ins:List Int}(hl:ins.length<=3)(hn:∀ x∈ins,0<=x):wn (dj ins (.tup [.str nm,.int t])) v=t.testBit (cJ (ins.map v)):=by
 have hct:eJ bU (.tup [.str nm,.int t])=t:=by unfold eJ;simp
 unfold dj;refine yF hct ?_;split
 ·unfold wn;refine yF (ve _ _ _) ?_;rfl
 ·rename_i hne;have:=qd h0 h1 (t:=t) hl hn;have hp:(aE t ins).param= .none:=by
   unfold aE at hne ⊢;split
   ·rfl
   ·split
    ·rfl
    ·rename_i a b;rw[if_neg a,if_neg b]at hne;exact absurd (by simp) hne
  unfold wn at this ⊢;rw[hp]at this;exact this
noncomputable def fv(f:cw)(v:Int->Bool):Bool:=tb f.1 .none (f.2.map v)
theorem vf{a b:Int}{o:Bool}(ho:o=true->v a= !v b):fv (dD a b o) v=(v a&&v b):=by
 unfold dD fv;split
 ·rename_i h;simp only[mC,mN,cM,h0];simp only[E4,decide_eq_true_eq]at h;rcases h with (rfl | rfl) | h
  ·refine yF h0 ?_;rfl
  ·refine yF h0 ?_;simp
  ·refine yF (ho h) ?_;cases v b<;>rfl
 ·split
  ·rename_i h;simp only[mC,mN,cM];simp only[E4,decide_eq_true_eq]at h;rcases h with rfl | rfl
   ·refine yF h1 ?_;rfl
   ·cases v a<;>rfl
  ·split
   ·rename_i h;have h:=of_decide_eq_true h;subst h;simp only[mC,mN,cM,h1,Bool.and_true]
   ·simp only[mC,mN,uq]
theorem xZ{a b:Int}{o:Bool}(ho:o=true->v a= !v b):fv (eZ a b o) v=(v a || v b):=by
 unfold eZ fv;split
 ·rename_i h;simp only[mC,mN,cM,h1];simp only[E4,decide_eq_true_eq]at h;rcases h with (rfl | rfl) | h
  ·refine yF h1 ?_;rfl
  ·refine yF h1 ?_;simp
  ·refine yF (ho h) ?_;cases v b<;>rfl
 ·split
  ·rename_i h;simp only[mC,mN,cM];simp only[E4,decide_eq_true_eq]at h;rcases h with rfl | rfl
   ·refine yF h0 ?_;rfl
   ·cases v a<;>rfl
  ·split
   ·rename_i h;have h:=of_decide_eq_true h;subst h;simp only[mC,mN,cM,h0,Bool.or_false]
   ·simp only[mC,mN,xU]
theorem vg{a b:Int}{o:Bool}(ho:o=true->v a= !v b):fv (dE a b o) v=(v a ^^ v b):=by
 unfold dE fv;split
 ·rename_i h;have h:=of_decide_eq_true h;subst h;simp only[mC,mN,cM,h0];cases v a<;>rfl
 ·split
  ·rename_i h;simp only[mC,mN,cM,h1];refine yF (ho h) ?_;cases v b<;>rfl
  ·split
   ·rename_i h;have h:=of_decide_eq_true h;subst h;simp only[mC,mN,cM,h0,Bool.false_xor]
   ·split
    ·rename_i h;have h:=of_decide_eq_true h;subst h;simp only[mC,mN,cM,h0,Bool.xor_false]
    ·split
     ·rename_i h;have h:=of_decide_eq_true h;subst h;simp only[mC,mN,ip,h1,Bool.true_xor]
     ·split
      ·rename_i h;have h:=of_decide_eq_true h;subst h;simp only[mC,mN,ip,h1,Bool.xor_true]
      ·simp only[mC,mN,ur]
inductive eu:cw->Prop where
 | buf (a:Int):eu (aP,[a])
 | not (a:Int):eu (bC,[a])
 | and (a b:Int):eu (eH,[a,b])
 | or (a b:Int):eu (kI,[a,b])
 | xor (a b:Int):eu (fj,[a,b])
theorem oC(h:eu f):fv (db f) v= !fv f v:=by
 cases h with
 | buf a=>
  unfold db cY fv;by_cases ha:a=0\/a=1
  ·rcases ha with rfl | rfl
   ·simp only[cM,mC,mN,if_true,decide_true,L4,show (1:Int) - 0=1 from rfl,h0,h1];rfl
   ·simp only[cM,mC,mN,if_true,decide_true,Bool.or_true,show (1:Int) - 1=0 from rfl,h0,h1];rfl
  ·have:(decide (a=0) || decide (a=1))=false:=by
    rewrite[GA];rewrite[decide_eq_false_iff_not];rewrite[decide_eq_false_iff_not];exact⟨fun q=>ha (Ed q),fun q=>ha (Ew q)⟩
   simp only[this,fE,if_false,if_true,decide_true,cM,ip,mC,mN]
 | not a=>
  have e1:decide (bC=aP)=false:=by decide
  unfold db cY fv;simp only[e1,fE,if_false,if_true,decide_true,cM,ip,mC,mN,Bool.not_not]
 | and a b=>
  have e1:decide (eH=aP)=false:=by decide
  have e2:decide (eH=bC)=false:=by decide
  unfold db cY fv;simp only[e1,e2,fE,if_false,if_true,decide_true,uq,u8,mC,mN]
 | or a b=>
  have e1:decide (kI=aP)=false:=by decide
  have e2:decide (kI=bC)=false:=by decide
  have e3:decide (kI=eH)=false:=by decide
  unfold db cY fv;simp only[e1,e2,e3,fE,if_false,if_true,decide_true,xU,xV,mC,mN]
 | xor a b=>
  have e1:decide (fj=aP)=false:=by decide
  have e2:decide (fj=bC)=false:=by decide
  have e3:decide (fj=eH)=false:=by decide
  have e4:decide (fj=kI)=false:=by decide
  unfold db cY fv;simp only[e1,e2,e3,e4,fE,if_false,ur,vd,mC,mN]
omit h0 h1 in
theorem sW(a b:Int)(o:Bool):eu (dD a b o):=by unfold dD;(repeat' split)<;>constructor
omit h0 h1 in
theorem vh(a b:Int)(o:Bool):eu (eZ a b o):=by unfold eZ;(repeat' split)<;>constructor
omit h0 h1 in
theorem sX(a b:Int)(o:Bool):eu (dE a b o):=by unfold dE;(repeat' split)<;>constructor
theorem x0{a b:Int}{o:Bool}(hk:k∈nW)(ho:o=true->v a= !v b):fv (cy k a b o) v=tb k .none [v a,v b]:=by
 have d1:decide (fq=eH)=false:=by decide
 have d2:decide (kI=eH)=false:=by decide
 have d3:decide (kI=fq)=false:=by decide
 have d4:decide (jj=eH)=false:=by decide
 have d5:decide (jj=fq)=false:=by decide
 have d6:decide (jj=kI)=false:=by decide
 have d7:decide (fj=eH)=false:=by decide
 have d8:decide (fj=fq)=false:=by decide
 have d9:decide (fj=kI)=false:=by decide
 have d10:decide (fj=jj)=false:=by decide
 have d11:decide (gM=eH)=false:=by decide
 have d12:decide (gM=fq)=false:=by decide
 have d13:decide (gM=kI)=false:=by decide
 have d14:decide (gM=jj)=false:=by decide
 have d15:decide (gM=fj)=false:=by decide
 unfold nW at hk;simp only[ER,EW,or_false]at hk;unfold cy;rcases hk with rfl | rfl | rfl | rfl | rfl | rfl
 ·simp only[decide_true,if_true];refine DK (vf h0 h1 ho) ?_;refine yF (uq _ _) ?_;rfl
 ·simp only[d1,fE,if_false,decide_true,if_true];refine DK (oC h0 h1 (sW _ _ _)) ?_;refine yF (vf h0 h1 ho) ?_;refine yF (u8 _ _) ?_;rfl
 ·simp only[d2,d3,fE,if_false,decide_true,if_true];refine DK (xZ h0 h1 ho) ?_;refine yF (xU _ _) ?_;rfl
 ·simp only[d4,d5,d6,fE,if_false,decide_true,if_true];refine DK (oC h0 h1 (vh _ _ _)) ?_;refine yF (xZ h0 h1 ho) ?_;refine yF (xV _ _) ?_;rfl
 ·simp only[d7,d8,d9,d10,fE,if_false,decide_true,if_true];refine DK (vg h0 h1 ho) ?_;refine yF (ur _ _) ?_;rfl
 ·simp only[d11,d12,d13,d14,d15,fE,if_false];refine DK (oC h0 h1 (sX _ _ _)) ?_;refine yF (vg h0 h1 ho) ?_;refine yF (vd _ _) ?_;rfl
theorem zl{s a b:Int}:fv (dh s a b) v=tb ef .none [v s,v a,v b]:=by
 refine yF (xW _ _ _) ?_;unfold dh fv;split
 ·rename_i h;simp only[mC,mN,cM];simp only[E4,decide_eq_true_eq]at h;rcases h with rfl | rfl
  ·refine yF h0 ?_;rfl
  ·cases v s<;>rfl
 ·split
  ·rename_i h;have h:=of_decide_eq_true h;subst h;simp only[mC,mN,cM,h1,if_true]
  ·split
   ·rename_i h;simp only[Eb,decide_eq_true_eq]at h;refine am h fun z1 z2=>?_;clear h;subst z1;subst z2;simp only[mC,mN,cM,h0,h1];cases v s<;>rfl
   ·split
    ·rename_i h;simp only[Eb,decide_eq_true_eq]at h;refine am h fun z1 z2=>?_;clear h;subst z1;subst z2;simp only[mC,mN,ip,h0,h1];cases v s<;>rfl
    ·simp only[mC,mN,xW]
end
end
inductive FG(a b:Int):cw->Prop where
 | buf (y:Int):(y=0\/y=1\/y=a\/y=b)->FG a b (aP,[y])
 | not (x:Int):(x=a\/x=b)->FG a b (bC,[x])
 | g (k:Nm):k∈nW->2<=a->2<=b->a≠b->FG a b (k,[a,b])
theorem ya{a b:Int}{o:Bool}(ha:0<=a)(hb:0<=b):FG a b (dD a b o):=by
 unfold dD;split
 ·exact FG.buf 0 (Ed rfl)
 ·rename_i h1;split
  ·exact FG.buf b (by simp)
  ·rename_i h2;split
   ·exact FG.buf a (by simp)
   ·rename_i h3;simp only[E4,decide_eq_true_eq,not_or]at h1 h2 h3;exact FG.g _ (by decide) (zK ha h1.1.1 h2.1) (zK hb h1.1.2 h3) h2.2
theorem zW{a b:Int}{o:Bool}(ha:0<=a)(hb:0<=b):FG a b (eZ a b o):=by
 unfold eZ;split
 ·exact FG.buf 1 (by simp)
 ·rename_i h1;split
  ·exact FG.buf b (by simp)
  ·rename_i h2;split
   ·exact FG.buf a (by simp)
   ·rename_i h3;simp only[E4,decide_eq_true_eq,not_or]at h1 h2 h3;exact FG.g _ (by decide) (zK ha h2.1 h1.1.1) (zK hb h3 h1.1.2) h2.2
theorem yb{a b:Int}{o:Bool}(ha:0<=a)(hb:0<=b):FG a b (dE a b o):=by
 unfold dE;split
 ·exact FG.buf 0 (Ed rfl)
 ·rename_i h1;split
  ·exact FG.buf 1 (by simp)
  ·split
   ·exact FG.buf b (by simp)
   ·rename_i h2;split
    ·exact FG.buf a (by simp)
    ·rename_i h3;split
     ·exact FG.not b (by simp)
     ·rename_i h4;split
      ·exact FG.not a (by simp)
      ·rename_i h5;simp only[decide_eq_true_eq]at h1 h2 h3 h4 h5;exact FG.g _ (by decide) (zK ha h2 h4) (zK hb h3 h5) h1
theorem rp{a b:Int}(h:FG a b f)(ht:eu f):FG a b (db f):=by
 cases ht with
 | buf y=>
  have hy:y=0\/y=1\/y=a\/y=b:=by
   generalize hK:(aP,[y])=K at h;cases h with
   | buf z hz=>simp only[Fp,FX]at hK;refine yF hK.2.1 ?_;exact hz
   | not z hz=>simp only[Fp]at hK;exact absurd hK.1 (by decide)
   | g k=>simp at hK
  unfold db cY;by_cases hy2:y=0\/y=1
  ·have:(decide (y=0) || decide (y=1))=true:=by simpa using hy2
   simp only[this,decide_true,if_true];exact FG.buf _ (hy2.elim (fun e=> .inr (.inl (by rewrite[e];rfl))) fun e=> .inl (by rewrite[e];rfl))
  ·have:(decide (y=0) || decide (y=1))=false:=by
    rewrite[GA];rewrite[decide_eq_false_iff_not];rewrite[decide_eq_false_iff_not];exact⟨fun q=>hy2 (Ed q),fun q=>hy2 (Ew q)⟩
   simp only[this,decide_true,if_true,fE,if_false];refine FG.not y ?_;rcases hy with q | q | q | q
   ·exact absurd (Ed q) hy2
   ·exact absurd (Ew q) hy2
   ·exact Ed q
   ·exact Ew q
 | not y=>
  have hy:y=a\/y=b:=by
   generalize hK:(bC,[y])=K at h;cases h with
   | buf z hz=>simp only[Fp]at hK;exact absurd hK.1 (by decide)
   | not z hz=>simp only[Fp,FX]at hK;refine yF hK.2.1 ?_;exact hz
   | g k=>simp at hK
  have e1:decide (bC=aP)=false:=by decide
  unfold db cY;simp only[e1,decide_true,if_true,fE,if_false];exact FG.buf _ (by rcases hy with q | q<;>simp[q])
 | and c d=>
  obtain⟨rfl,rfl,h1,h2,h3⟩:c=a/\d=b/\2<=a/\2<=b/\a≠b:=by
   generalize hK:(eH,[c,d])=K at h;cases h with
   | buf z hz=>simp at hK
   | not z hz=>simp at hK
   | g k hk x y z=>simp only[Fp,FX]at hK;exact⟨hK.2.1,hK.2.2.1,x,y,z⟩
  have e1:decide (eH=aP)=false:=by decide
  have e2:decide (eH=bC)=false:=by decide
  unfold db cY;simp only[e1,e2,decide_true,if_true,fE,if_false];exact FG.g _ (by decide) h1 h2 h3
 | or c d=>
  obtain⟨rfl,rfl,h1,h2,h3⟩:c=a/\d=b/\2<=a/\2<=b/\a≠b:=by
   generalize hK:(kI,[c,d])=K at h;cases h with
   | buf z hz=>simp at hK
   | not z hz=>simp at hK
   | g k hk x y z=>simp only[Fp,FX]at hK;exact⟨hK.2.1,hK.2.2.1,x,y,z⟩
  have e1:decide (kI=aP)=false:=by decide
  have e2:decide (kI=bC)=false:=by decide
  have e3:decide (kI=eH)=false:=by decide
  unfold db cY;simp only[e1,e2,e3,decide_true,if_true,fE,if_false];exact FG.g _ (by decide) h1 h2 h3
 | xor c d=>
  obtain⟨rfl,rfl,h1,h2,h3⟩:c=a/\d=b/\2<=a/\2<=b/\a≠b:=by
   generalize hK:(fj,[c,d])=K at h;cases h with
   | buf z hz=>simp at hK
   | not z hz=>simp at hK
   | g k hk x y z=>simp only[Fp,FX]at hK;exact⟨hK.2.1,hK.2.2.1,x,y,z⟩
  have e1:decide (fj=aP)=false:=by decide
  have e2:decide (fj=bC)=false:=by decide
  have e3:decide (fj=eH)=false:=by decide
  have e4:decide (fj=kI)=false:=by decide
  unfold db cY;simp only[e1,e2,e3,e4,fE,if_false];exact FG.g _ (by decide) h1 h2 h3
theorem zm{a b:Int}{o:Bool}(ha:0<=a)(hb:0<=b):FG a b (cy k a b o):=by
 unfold cy;(repeat' split)
 ·exact ya ha hb
 ·exact rp (ya ha hb) (sW _ _ _)
 ·exact zW ha hb
 ·exact rp (zW ha hb) (vh _ _ _)
 ·exact yb ha hb
 ·exact rp (yb ha hb) (sX _ _ _)
inductive R1(ins:List Int):F3->Prop where
 | buf (y:Int):(y=0\/y=1\/y∈ins)->R1 ins ⟨aP,[y],.none⟩
 | not (x:Int):x∈ins->R1 ins ⟨bC,[x],.none⟩
 | oth (F:F3):F.kind≠aP->F.kind≠bC->bX F.kind F.ins->aT F.kind F.ins.length F.param->(∀ x∈F.ins,x∈ins)->R1 ins F
theorem BH{a b:Int}{ins:List Int}(h:FG a b f)(ha:a∈ins)(hb:b∈ins):R1 ins (f3 f):=by
 cases h with
 | buf y hy=>exact R1.buf y (by rcases hy with q | q | q | q<;>simp[q,ha,hb])
 | not x hx=>exact R1.not x (by rcases hx with q | q<;>simp[q,ha,hb])
 | g k hk h1 h2 h3=>
  refine R1.oth _ ?_ ?_ (bX.gate k a b hk h1 h2 h3) (aT.gate k hk) (fun x hx=> ?_)
  ·intro e;unfold f3 at e;simp only at e;rw[e]at hk;exact absurd hk (by decide)
  ·intro e;unfold f3 at e;simp only at e;rw[e]at hk;exact absurd hk (by decide)
  ·unfold f3 at hx;simp only[ER,EW,or_false]at hx;rcases hx with rfl | rfl
   ·exact ha
   ·exact hb
theorem AI{s a b:Int}{ins:List Int}(hs:s∈ins)(ha:a∈ins)(hb:b∈ins)(hn:∀ x∈ins,0<=x):R1 ins (f3 (dh s a b)):=by
 have:=hn s hs;have:=hn a ha;have:=hn b hb;unfold dh;split
 ·exact R1.buf a (by simp[ha])
 ·rename_i h1;split
  ·exact R1.buf b (by simp[hb])
  ·rename_i h2;split
   ·exact R1.buf s (by simp[hs])
   ·rename_i h3;split
    ·exact R1.not s hs
    ·rename_i h4;simp only[E4,Eb,decide_eq_true_eq,not_or,not_and]at h1 h2 h3 h4;refine R1.oth _ (show ef≠aP by decide) (show ef≠bC by decide) (bX.mux s a b (zK ‹0<=s› h1.1 h2) h1.2 (fun q=> ?_)) aT.mux (fun x hx=> ?_)
     ·by_cases ha0:a=0
      ·have:=h3 ha0;lia
      ·have ha1:a=1:=by lia
       have:=h4 ha1;lia
     ·unfold f3 at hx;simp only[ER,EW,or_false]at hx;rcases hx with rfl | rfl | rfl
      ·exact hs
      ·exact ha
      ·exact hb
theorem mx{t:Nat}{ins:List Int}{x:Int}(h:x∈bP t ins):x∈ins/\x>1:=by
 unfold bP at h;refine af (Es.mp h) fun p hp z3=>?_;subst z3;have hpl:=gL hp;refine yF Ei ?_;refine yF (gE hpl) ?_;exact (kJ ins _).mp (Ey hpl)
theorem sY{t:Nat}{ins:List Int}:(bP t ins).Nodup:=by
 unfold bP b0 NI;rewrite[L1];have h1:(cI (fb t ins) (aS ins).length).Nodup:=Hl _ IB;refine Lj ?_ h1;intro p q hp hq hne e;have hpl:=gL hp;have hql:=gL hq;rw[Ei,Ei,gE hpl,gE hql]at e;have e2:(aS ins)[p]? =(aS ins)[q]? :=by (refine DK (gE hpl) ?_;refine yF (gE hql) ?_);exact congrArg DJ e
 exact hne ((Hk hpl (qX ins)).mp e2)
theorem wr{t:Nat}{ins:List Int}:(bP t ins).length<=ins.length:=by
 unfold bP b0;refine yF (DR _) ?_;exact DO (qN _ _) (gO ins)
theorem sZ{t:Nat}{ins:List Int}(hl:ins.length<=3):R1 ins (aE t ins):=by
 unfold aE;split
 ·refine R1.buf _ ?_;have:fO t ins &&& 1<=1:=HT;lia
 ·rename_i h0;split
  ·rename_i h1;have h1:=of_decide_eq_true h1;obtain⟨x,hx⟩:∃ x,bP t ins=[x]:=by
    match h:bP t ins,h1 with
    | [x],_=>exact ⟨x,rfl⟩
   have hxm:x∈ins:=(mx (t:=t) (by refine yF hx ?_;simp)).1;refine yF hx ?_;split
   ·exact R1.buf x (Ew (Ew hxm))
   ·exact R1.not x hxm
  ·rename_i h1;simp only[decide_eq_true_eq]at h0 h1;have hlen:=wr (t:=t) (ins:=ins);exact R1.oth _ (show df≠aP by decide) (show df≠bC by decide) (bX.lut _ sY (fun x hx=>by have:=(mx hx).2;norm_cast) (Cr h0 h1) (show (bP t ins).length<=3 by exact DO hlen hl)) (aT.lut _ _ (show 1<=(bP t ins).length by exact dm (nat_lit 10755714062) tt (Jj h0)) (show (bP t ins).length<=3 by exact DO hlen hl)) (fun x hx=>(mx hx).1)
theorem AJ{t:Nat}{ins:List Int}(hl:ins.length<=3)(h1:1<=ins.length):R1 ins (dj ins (.tup [.str nm,.int t])):=by
 have hct:eJ bU (.tup [.str nm,.int t])=t:=by unfold eJ;simp
 unfold dj;refine yF hct ?_;split
 ·exact R1.oth _ (show bU≠aP by decide) (show bU≠bC by decide) (bX.cell _) (aT.cell _ t nm h1 hl) (fun x hx=>hx)
 ·rename_i hne;have hr:=sZ (t:=t) hl;by_cases c0:decide ((bP t ins).length=0)=true
  ·have e:aE t ins=⟨aP,[((fO t ins &&& 1:Nat):Int)],.none⟩:=by unfold aE;refine DK (if_pos c0) ?_;rfl
   rw[e]at hr ⊢;exact hr
  ·by_cases c1:decide ((bP t ins).length=1)=true
   ·have e:aE t ins=⟨if fO t ins=2 then aP else bC,bP t ins,.none⟩:=by unfold aE;refine DK (if_neg c0) ?_;refine DK (if_pos c1) ?_;rfl
    rw[e]at hr ⊢;exact hr
   ·have e:aE t ins=⟨df,bP t ins,.int (fO t ins:Nat)⟩:=by unfold aE;refine DK (if_neg c0) ?_;refine DK (if_neg c1) ?_;rfl
    rw[e]at hne;exact absurd (by simp) hne
theorem s6{ins:List Int}{inv:Int->Option Int}(ok:aT k ins.length p)(hn:∀ x∈ins,0<=x):R1 ins (cB k p ins inv):=by
 have hlen:=du ok;generalize hL:ins.length=L at ok;cases ok with
 | lut l t h1 h2=>
  have:cB df (.int t) ins inv=aE (eJ df (.int t)) ins:=by unfold cB;refine DK (if_pos rfl) ?_;rfl
  refine yF this ?_;exact sZ (dm (nat_lit 364468587968) tt hlen.2)
 | cell l t nm h1 h2=>
  have:cB bU (.tup [.str nm,.int t]) ins inv=dj ins (.tup [.str nm,.int t]):=by unfold cB;refine DK (if_neg (by decide)) ?_;refine DK (if_pos rfl) ?_;rfl
  refine yF this ?_;exact AJ (dm (nat_lit 364468587968) tt hlen.2) (dm (nat_lit 344182817326) tt hlen.1)
 | mux=>
  obtain⟨a,b,c,rfl⟩:∃ a b c,ins=[a,b,c]:=Au hL;have:cB ef .none [a,b,c] inv=f3 (dh a b c):=by unfold cB;refine DK (if_neg (by decide)) ?_;refine DK (if_neg (by decide)) ?_;refine DK (if_pos rfl) ?_;rfl
  refine yF this ?_;exact AI (by simp) (by simp) (by simp) hn
 | gate k hk=>
  obtain⟨a,b,rfl⟩:∃ a b,ins=[a,b]:=vZ hL;have g1:k≠df:=fun e=>by rw[e]at hk;exact absurd hk (by decide)
  have g2:k≠bU:=fun e=>by rw[e]at hk;exact absurd hk (by decide)
  have g3:k≠ef:=fun e=>by rw[e]at hk;exact absurd hk (by decide)
  have:cB k .none [a,b] inv=f3 (cy k a b (uS inv a b)):=by unfold cB;refine DK (if_neg g1) ?_;refine DK (if_neg g2) ?_;refine DK (if_neg g3) ?_;refine yF (if_pos (show [a,b].length=2 from rfl)) ?_;rfl
  refine yF this ?_;exact BH (zm (hn a (by simp)) (hn b (by simp))) (by simp) (by simp)
 | buf=>
  obtain⟨a,rfl⟩:∃ a,ins=[a]:=xr hL;exact R1.buf a (by simp)
 | not=>
  obtain⟨a,rfl⟩:∃ a,ins=[a]:=xr hL;exact R1.not a (by simp)
theorem zn{inv:Int->Option Int}{v:Int->Bool}{a b:Int}(hi:∀ x y,inv x=DJ y->v x= !v y)(ha:0<=a)(hb:0<=b)(h:uS inv a b=true):v a= !v b:=by
 unfold uS at h;rw[E4,decide_eq_true_iff,decide_eq_true_iff]at h;rcases h with h | h
 ·cases hx:inv a with
  | none=>rw[hx]at h;simp at h;(subst_vars;omega)
  | some y=>rw[hx]at h;simp at h;refine yB h ?_;exact hi a y hx
 ·cases hx:inv b with
  | none=>rw[hx]at h;simp at h;(subst_vars;omega)
  | some y=>rw[hx]at h;simp at h;refine yB h ?_;refine yF (hi b y hx) ?_;simp
theorem wu{ins:List Int}{inv:Int->Option Int}{v:Int->Bool}(ok:aT k ins.length p)(hn:∀ x∈ins,0<=x)(h0:v 0=false)(h1:v 1=true)(hi:∀ x y,inv x=DJ y->v x= !v y):wn (cB k p ins inv) v=tb k p (ins.map v):=by
 have hlen:=du ok;generalize hL:ins.length=L at ok;cases ok with
 | lut l t a b=>
  have:cB df (.int t) ins inv=aE t ins:=by unfold cB;refine DK (if_pos rfl) ?_;rfl
  refine yF this ?_;refine DK (qd h0 h1 (by with_unfolding_all exact dm (nat_lit 364468587968) tt hlen.2) hn) ?_;refine yF (xX _ _) ?_;rfl
 | cell l t nm a b=>
  have:cB bU (.tup [.str nm,.int t]) ins inv=dj ins (.tup [.str nm,.int t]):=by unfold cB;refine DK (if_neg (by decide)) ?_;refine DK (if_pos rfl) ?_;rfl
  refine yF this ?_;refine DK (zk h0 h1 (by with_unfolding_all exact dm (nat_lit 364468587968) tt hlen.2) hn) ?_;refine yF (ve _ _ _) ?_;rfl
 | mux=>
  obtain⟨a,b,c,rfl⟩:∃ a b c,ins=[a,b,c]:=Au hL;have:cB ef .none [a,b,c] inv=f3 (dh a b c):=by unfold cB;refine DK (if_neg (by decide)) ?_;refine DK (if_neg (by decide)) ?_;refine DK (if_pos rfl) ?_;rfl
  refine yF this ?_;exact zl h0 h1
 | gate k hk=>
  obtain⟨a,b,rfl⟩:∃ a b,ins=[a,b]:=vZ hL;have g1:k≠df:=fun e=>by rw[e]at hk;exact absurd hk (by decide)
  have g2:k≠bU:=fun e=>by rw[e]at hk;exact absurd hk (by decide)
  have g3:k≠ef:=fun e=>by rw[e]at hk;exact absurd hk (by decide)
  have:cB k .none [a,b] inv=f3 (cy k a b (uS inv a b)):=by unfold cB;refine DK (if_neg g1) ?_;refine DK (if_neg g2) ?_;refine DK (if_neg g3) ?_;refine yF (if_pos (show [a,b].length=2 from rfl)) ?_;rfl
  refine yF this ?_;exact x0 h0 h1 hk (zn hi (hn a (by simp)) (hn b (by simp)))
 | buf=>
  obtain⟨a,rfl⟩:∃ a,ins=[a]:=xr hL;rfl
 | not=>
  obtain⟨a,rfl⟩:∃ a,ins=[a]:=xr hL;rfl
inductive R2(ins:List Int)(inv:Int->Option Int):F3->Prop where
 | buf (y:Int):(y=0\/y=1\/y∈ins\/∃ x∈ins,inv x=DJ y)->R2 ins inv ⟨aP,[y],.none⟩
 | not (x:Int):x∈ins->2<=x->inv x=none->R2 ins inv ⟨bC,[x],.none⟩
 | oth (F:F3):F.kind≠aP->F.kind≠bC->bX F.kind F.ins->aT F.kind F.ins.length F.param->(∀ x∈F.ins,x∈ins)->R2 ins inv F
set_option tactic.hygienic true in
theorem yc{ins:List Int}{inv:Int->Option Int}(h:R1 ins F)(hn:∀ x∈ins,0<=x):R2 ins inv (em inv F):=by
 cases h with
 | buf y hy=>
  have:em inv ⟨aP,[y],.none⟩=⟨aP,[y],.none⟩:=by unfold em;refine yF (if_neg (show ¬ aP=bC by decide)) ?_;rfl
  refine yF this ?_;exact R2.buf y (by rcases hy with q | q | q<;>simp[q])
 | not x hx=>
  unfold em;refine yF (if_pos rfl) ?_;have hgd:[x].getD 0 0=x:=rfl;simp only[hgd];split
  ·rename_i h;exact R2.buf _ (h.elim (fun e=> .inr (.inl (by rewrite[e];rfl))) fun e=> .inl (by rewrite[e];rfl))
  ·rename_i h;split
   ·rename_i y hy;exact R2.buf y (Ew (Ew (Ew ⟨x,hx,hy⟩)))
   ·rename_i hy;exact R2.not x hx (zK (hn x hx) (fun e=>absurd (.inl e) ‹¬(x=0\/x=1)›) fun e=>absurd (.inr e) ‹¬(x=0\/x=1)›) hy
 | oth F a b c d e=>
  have:em inv F=F:=by unfold em;refine yF (if_neg b) ?_;rfl
  refine yF this ?_;exact R2.oth F a b c d e
theorem wv{ins:List Int}{inv:Int->Option Int}{v:Int->Bool}(h:R1 ins F)(h0:v 0=false)(h1:v 1=true)(hi:∀ x y,inv x=DJ y->v x= !v y):wn (em inv F) v=wn F v:=by
 cases h with
 | buf y hy=>
  have:em inv ⟨aP,[y],.none⟩=⟨aP,[y],.none⟩:=by unfold em;refine yF (if_neg (show ¬ aP=bC by decide)) ?_;rfl
  refine yF this ?_;rfl
 | not x hx=>
  unfold em;refine yF (if_pos rfl) ?_;have hgd:[x].getD 0 0=x:=rfl;simp only[hgd];split
  ·rename_i h;unfold wn;simp only[mC,mN,cM,ip];rcases h with rfl | rfl
   ·refine yF (show (1:Int) - 0=1 from rfl) ?_;refine yF h0 ?_;refine DK h1 ?_;rfl
   ·refine yF (show (1:Int) - 1=0 from rfl) ?_;refine DK h0 ?_;refine yF h1 ?_;rfl
  ·split
   ·rename_i y hy;unfold wn;simp only[mC,mN,cM,ip];refine yF (hi x y hy) ?_;simp
   ·rfl
 | oth F a b c d e=>
  have:em inv F=F:=by unfold em;refine yF (if_neg b) ?_;rfl
  refine yF this ?_;rfl
theorem ww{ins:List Int}{inv:Int->Option Int}(ok:aT k ins.length p)(hn:∀ x∈ins,0<=x):R2 ins inv (ck k p ins inv):=yc (s6 ok hn) hn
theorem us{ins:List Int}{inv:Int->Option Int}{v:Int->Bool}(ok:aT k ins.length p)(hn:∀ x∈ins,0<=x)(h0:v 0=false)(h1:v 1=true)(hi:∀ x y,inv x=DJ y->v x= !v y):wn (ck k p ins inv) v=tb k p (ins.map v):=by
 unfold ck;refine DK (wv (s6 ok hn) h0 h1 hi) ?_;refine DK (wu ok hn h0 h1 hi) ?_;rfl
structure RB(N:NL)(l:List aj)(rep:Int->Option Int):Prop where
 len:l.length=N.cells.length
 out:∀ i,i<N.cells.length->(cA l i).out=(cA N.cells i).out
 st:∀ i,i<N.cells.length->bh (cA N.cells i).kind=true->cA l i=cA N.cells i
 sk:∀ i,i<N.cells.length->bh (cA N.cells i).kind=false->bh (cA l i).kind=false
 key:∀ x y,rep x=DJ y->∃ i∈bj N.cells,(cA N.cells i).out=x
 ch:nZ rep
 vy:∀ x y,rep x=DJ y->y∈bq N++outs N
 ok:∀ i∈bj N.cells,rep (cA N.cells i).out=none->aT (cA l i).kind (cA l i).ins.length (cA l i).param/\∀ x∈(cA l i).ins,x∈bq N++outs N
 acyc:∃ rank:Int->Nat,∀ i∈bj N.cells,rep (cA N.cells i).out=none->∀ x∈(cA l i).ins,∀ j∈bj N.cells,(cA N.cells j).out=fin rep x->rank (cA N.cells j).out<rank (cA N.cells i).out
 val:∀ pat rows W,jk N pat rows W->(∀ x y,rep x=DJ y->W x=W y)/\∀ i∈bj N.cells,rep (cA N.cells i).out=none->W (cA N.cells i).out=gW (eJ (cA l i).kind (cA l i).param) ((cA l i).ins.map W) (2 ^ rows - 1)
theorem kQ(h:c∈l):∃ i,i<l.length/\cA l i=c:=by
 refine aq (FJ h) fun i hi=>?_;exact⟨i,(gS.mp hi).1,n3 hi⟩
theorem aX:i∈bj l↔i<l.length/\bh (cA l i).kind=false:=by
 unfold bj;rewrite[E5];rewrite[E7];simp
theorem yd:∀ (l l0:List aj),l.length=l0.length->(∀ i,i<l0.length->bh (cA l0 i).kind=true->cA l i=cA l0 i)->(∀ i,i<l0.length->bh (cA l0 i).kind=false->bh (cA l i).kind=false)->eh l=eh l0:=by
 intro l;induction l with
 | nil=>intro l0 h _ _;cases l0 with
  | nil=>rfl
  | cons a l0=>simp at h
 | cons a l ih=>
  intro l0 h h1 h2;cases l0 with
  | nil=>simp at h
  | cons b l0=>
   have hr:=ih l0 (by simpa using h) (fun i hi=>h1 (i+1) (by simpa using hi)) (fun i hi=>h2 (i+1) (by simpa using hi));unfold eh at hr ⊢;refine DK Gp ?_;refine yF Gp ?_;cases hb:bh b.kind with
   | true=>
    have:a=b:=h1 0 (by simp) hb;subst this;refine yF hb ?_;refine DK (if_pos rfl) ?_;refine yF (if_pos rfl) ?_;refine yF hr ?_;rfl
   | false=>
    have:bh a.kind=false:=h2 0 (by simp) hb;refine yF this ?_;refine DK (if_neg (by simp)) ?_;refine yF (if_neg (by simp)) ?_;refine DK hr ?_;rfl
theorem RB.cells{rep:Int->Option Int}(r:RB N l rep)(h:c∈(be N l rep).cells):∃ i,i<N.cells.length/\rep (cA N.cells i).out=none/\c=fc rep (cA l i):=by
 unfold be at h;refine af (Es.mp h) fun d hd z3=>?_;subst z3;rw[E5]at hd;refine af (kQ hd.1) fun i hi z3=>?_;subst z3;rw[r.len]at hi;refine⟨i,hi,?_,rfl⟩;refine yB (r.out i hi) ?_;simpa using hd.2
theorem RB.fin_none{rep:Int->Option Int}(r:RB N l rep)(x:Int):rep (fin rep x)=none:=by
 unfold fin;cases h:rep x with
 | none=>exact h
 | some y=>exact r.ch x y h
theorem RB.fin_mem{rep:Int->Option Int}(r:RB N l rep){x:Int}(hx:x∈bq N++outs N):fin rep x∈bq N++outs N:=by
 unfold fin;cases h:rep x with
 | none=>exact hx
 | some y=>exact r.vy x y h
theorem RB.outs_sub{rep:Int->Option Int}(r:RB N l rep):(outs (be N l rep)).Sublist (outs N):=by
 have h1:l.map (·.out)=outs N:=by
  unfold outs;apply FU;intro i;refine DK DX ?_;refine yF DX ?_;by_cases hi:i<N.cells.length
  ·refine yF (gQ hi) ?_;refine yF (gQ (by refine yF r.len ?_;exact hi)) ?_;simp only[oM,r.out i hi]
  ·refine yF (EN (by refine yF r.len ?_;exact Fe.mp hi)) ?_;refine yF (EN (Fe.mp hi)) ?_;rfl
 refine yB h1 ?_;unfold outs be;refine yF map_map ?_;exact Gj _ KQ
theorem RB.sub{rep:Int->Option Int}(r:RB N l rep){x:Int}(h:x∈bq (be N l rep)++outs (be N l rep)):x∈bq N++outs N:=by
 rw[DZ]at h ⊢;rcases h with h | h
 ·exact Ed h
 ·exact Ew (r.outs_sub.mem h)
theorem RB.sup{rep:Int->Option Int}(r:RB N l rep){x:Int}(h:x∈bq N++outs N)(hr:rep x=none):x∈bq (be N l rep)++outs (be N l rep):=by
 rw[DZ]at h ⊢;rcases h with h | h
 ·exact Ed h
 ·right
  unfold outs at h;refine af (Es.mp h) fun d hd z3=>?_;subst z3;refine af (kQ hd) fun i hi z3=>?_;subst z3;unfold outs be;simp only[map_map];refine Es.mpr ⟨cA l i,E5.mpr ⟨bL (by refine yF r.len ?_;exact hi),?_⟩,?_⟩
  ·refine yF (r.out i hi) ?_;refine yF hr ?_;rfl
  ·exact r.out i hi
theorem lI(hn:(outs N).Nodup)(hi:i<N.cells.length)(hj:j<N.cells.length)(e:(cA N.cells i).out=(cA N.cells j).out):i=j:=by
 have h1:=fP hn hi;have h2:=fP hn hj;rw[e,h2]at h1;refine jA h1 ?_;rfl
theorem RB.names{rep:Int->Option Int}(r:RB N l rep)(hno:(outs N).Nodup):bf (be N l rep).cells=bf N.cells:=by
 have h1:eh l=eh N.cells:=yd l N.cells r.len r.st r.sk;refine DK (dO _) ?_;dsimp only[dO];refine yB h1 ?_;unfold eh be;simp only;refine yF filter_map ?_;refine DK map_map ?_;refine yF filter_filter ?_;have:(l.filter fun a=>((fun c=>bh c.kind) ∘ fc rep) a&&(rep a.out).isNone)=l.filter fun c=>bh c.kind:=by
  apply L3;intro c hc;refine af (kQ hc) fun i hi z3=>?_;subst z3;rw[r.len]at hi;simp only[HQ,fc];cases hk:bh (cA l i).kind with
  | false=>rfl
  | true=>
   have hn:bh (cA N.cells i).kind=true:=by
    cases hq:bh (cA N.cells i).kind with
    | true=>rfl
    | false=>have:=r.sk i hi hq;rw[hk]at this;cases this
   have hrep:rep (cA l i).out=none:=by
    refine yF (r.out i hi) ?_;cases hq:rep (cA N.cells i).out with
    | none=>rfl
    | some y=>
     refine af (r.key _ _ hq) fun j hj ho=>?_;have:=lI hno (aX.mp hj).1 hi ho;subst this;have:=(aX.mp hj).2;rw[hn]at this;cases this
   refine yF hrep ?_;rfl
 refine yF this ?_;rfl
theorem RB.tr{rep:Int->Option Int}(g:cn N)(r:RB N l rep):Tr N (be N l rep):=by
 have hnm:=r.names g.outsNd;have hst:∀ c∈(be N l rep).cells,bh c.kind=true->∃ i,i<N.cells.length/\bh (cA N.cells i).kind=true/\c=fc rep (cA N.cells i):=by
  intro c hc hk;refine aM (r.cells hc) fun i hi hr z4=>?_;subst z4;have hk':bh (cA l i).kind=true:=hk;have hn:bh (cA N.cells i).kind=true:=by
   cases hq:bh (cA N.cells i).kind with
   | true=>rfl
   | false=>have:=r.sk i hi hq;rw[hk']at this;cases this
  exact⟨i,hi,hn,by (refine yF (r.st i hi hn) ?_;rfl)⟩
 have hcb:∀ c∈(be N l rep).cells,bh c.kind=false->∃ i∈bj N.cells,rep (cA N.cells i).out=none/\c=fc rep (cA l i):=by
  intro c hc hk;refine aM (r.cells hc) fun i hi hr z4=>?_;subst z4;have hk':bh (cA l i).kind=false:=hk;refine⟨i,aX.mpr ⟨hi,?_⟩,hr,rfl⟩;cases hq:bh (cA N.cells i).kind with
  | false=>rfl
  | true=>rw[r.st i hi hq,hq]at hk';cases hk'
 have hsm:=g.small;have hgood:cn (be N l rep):=by
  refine⟨⟨hsm.ci,by show (N.outputs.map _).length<=20;refine yF (DR _) ?_;exact hsm.co,?_,hsm.pi,?_,?_⟩,?_,?_,?_,?_,?_,?_,?_,?_,?_⟩
  ·show (((l.filter fun c=>(rep c.out).isNone).map (fc rep))).length<=20;refine yF (DR _) ?_;exact DO (EI _ _) (by refine yF r.len ?_;exact hsm.cc)
  ·intro p hp;refine af (Es.mp (show p∈N.outputs.map _ from hp)) fun q hq z3=>?_;subst z3;simp only[DR];exact hsm.po q hq
  ·intro c hc;cases hk:bh c.kind with
   | true=>
    refine aM (hst c hc hk) fun i hi hn z4=>?_;subst z4;show ((cA N.cells i).ins.map (fin rep)).length<=20;refine yF (DR _) ?_;exact hsm.ni _ (bL hi)
   | false=>
    refine aM (hcb c hc hk) fun i hi hr z4=>?_;subst z4;show ((cA l i).ins.map (fin rep)).length<=20;refine yF (DR _) ?_;have:=du (r.ok i hi hr).1;exact dm (nat_lit 11701034765760) tt this.2
  ·have:(bq (be N l rep)++outs (be N l rep)).Sublist (bq N++outs N):=IT (JJ _) r.outs_sub;exact Hi this g.nd
  ·intro c hc hk;refine aM (hcb c hc hk) fun i hi hr z4=>?_;subst z4;have:=(r.ok i hi hr).1;show aT (cA l i).kind ((cA l i).ins.map (fin rep)).length (cA l i).param;refine yF (DR _) ?_;exact this
  ·intro c hc hk;refine aM (hst c hc hk) fun i hi hn z4=>?_;subst z4;show lp (cA N.cells i).kind ((cA N.cells i).ins.map (fin rep)).length (cA N.cells i).param;refine yF (DR _) ?_;exact g.st _ (bL hi) hn
  ·intro c hc x hx;cases hk:bh c.kind with
   | true=>
    refine aM (hst c hc hk) fun i hi hn z4=>?_;subst z4;refine af (Es.mp (show x∈(cA N.cells i).ins.map (fin rep) from hx)) fun y hy z3=>?_;subst z3;exact r.sup (r.fin_mem (g.drv _ (bL hi) y hy)) (r.fin_none y)
   | false=>
    refine aM (hcb c hc hk) fun i hi hr z4=>?_;subst z4;refine af (Es.mp (show x∈(cA l i).ins.map (fin rep) from hx)) fun y hy z3=>?_;subst z3;exact r.sup (r.fin_mem ((r.ok i hi hr).2 y hy)) (r.fin_none y)
  ·intro x hx;refine af (G3.mp (show x∈(N.outputs.map fun p=>(p.1,p.2.map (fin rep))).flatMap (fun p=>p.2) from hx)) fun p hp hx=>?_;refine af (Es.mp hp) fun q hq z3=>?_;subst z3;refine af (Es.mp hx) fun y hy z3=>?_;subst z3;exact r.sup (r.fin_mem (g.drvO y (G3.mpr ⟨q,hq,hy⟩))) (r.fin_none y)
  ·intro x hx;exact g.nn x (r.sub hx)
  ·refine aq r.acyc fun rank hr=>?_;refine⟨rank,fun c hc hk d hd hkd hin=> ?_⟩;refine aM (hcb c hc hk) fun i hi hri z4=>?_;subst z4;refine aM (hcb d hd hkd) fun j hj hrj z4=>?_;subst z4;refine af (Es.mp (show (fc rep (cA l j)).out∈(cA l i).ins.map (fin rep) from hin)) fun y hy e=>?_;have hoj:(fc rep (cA l j)).out=(cA N.cells j).out:=r.out j (aX.mp hj).1;have hoi:(fc rep (cA l i)).out=(cA N.cells i).out:=r.out i (aX.mp hi).1;rw[hoj]at e ⊢;refine yF hoi ?_;exact hr i hi hri y hy j hj e.symm
  ·refine yF hnm ?_;exact g.nmz
  ·refine yF hnm ?_;exact g.bits
 refine⟨hgood,fun k hk=> ?_,fun pat rows W hs=> ?_⟩
 ·rw[fD,hnm]at hk;dsimp only[fD];exact hk
 ·refine am (r.val pat rows W hs) fun hv1 hv2=>?_;have hfin:∀ x,W (fin rep x)=W x:=by
   intro x;unfold fin;cases h:rep x with
   | none=>rfl
   | some y=>exact (hv1 x y h).symm
  have hmap:∀ ins:List Int,(ins.map (fin rep)).map W=ins.map W:=by
   intro ins;refine DK map_map ?_;exact EX fun x _=>hfin x
  refine⟨⟨hs.z,hs.o,hs.i,fun c hc hk=> ?_,fun c hc hk=> ?_,fun x hx=>hs.lt x (r.sub hx)⟩,⟨?_,rfl,rfl,fun c hc=> ?_⟩⟩
  ·refine aM (hst c hc hk) fun i hi hn z4=>?_;subst z4;exact hs.s (cA N.cells i) (bL hi) hn
  ·refine aM (hcb c hc hk) fun i hi hr z4=>?_;subst z4;have:=hv2 i hi hr;rw[<- r.out i (aX.mp hi).1]at this;show W (cA l i).out=gW (eJ (cA l i).kind (cA l i).param) (((cA l i).ins.map (fin rep)).map W) _;refine yF (hmap _) ?_;exact this
  ·show (N.outputs.map fun p=>(p.1,p.2.map (fin rep))).map (mQ W)=_;refine yF map_map ?_;apply EX;intro p _;show mQ W (p.1,p.2.map (fin rep))=mQ W p;unfold mQ;simp only[hmap]
  ·rw[gr]at hc;refine aM (hst c hc.1 hc.2) fun i hi hn z4=>?_;subst z4;exact⟨cA N.cells i,gr.mpr ⟨bL hi,hn⟩,rfl,rfl,rfl,(hmap _).symm⟩
section
noncomputable def Sd(N:NL)(T:List Nat)(x:Int):Prop:=x∈bB N\/∃ i∈T,(cA N.cells i).out=x
theorem s8{l:List Nat}{p i:Nat}(h:i∈l.take p):∃ q,q<p/\l[q]? =DJ i:=by
 refine aq (FJ h) fun q hq=>?_;have hl:=(gS.mp hq).1;rw[EG]at hl;exact⟨q,by exact bS (nat_lit 12129358850082) tt hl (EV _ _),by rw[Gy (by exact bS (nat_lit 12129358850082) tt hl (EV _ _))]at hq;exact hq⟩
theorem jF{l:List Nat}{p q i:Nat}(hq:q<p)(h:l[q]? =DJ i):i∈l.take p:=by
 apply D8 (i:=q);refine DK (Gy hq) ?_;exact h
theorem Sd.mono{N:NL}{R:List Nat}{p q:Nat}{x:Int}(h:Sd N (R.take q) x)(hpq:q<=p):Sd N (R.take p) x:=by
 rcases h with h | ⟨i,hi,e⟩
 ·exact Ed h
 ·refine af (s8 hi) fun k hk hk2=>?_;exact Ew ⟨i,jF (Ea hk hpq) hk2,e⟩
theorem oE{N:NL}(g:cn N){i:Nat}(hi:i∈bj N.cells):(cA N.cells i).out∉bB N:=by
 have hn:=g.nd2 (D:=[]) (E:=lX N.cells) (by simp);rw[mN,EC,Fa]at hn;refine am (aX.mp hi) fun h1 h2=>?_;intro hs;exact hn.2.2 _ hs _ (Es.mpr ⟨_,gq.mpr ⟨bL h1,h2⟩,rfl⟩) rfl
section
variable {N:NL} {R:List Nat} (g:cn N) (o:cP N.cells R)
include g o
theorem oF{p i:Nat}(hi:R[p]? =DJ i){x:Int}(hx:x∈(cA N.cells i).ins):Sd N (R.take p) x:=by
 have hic:=(o.mem i).mp (D8 hi);refine am (aX.mp hic) fun h1 h2=>?_;rcases iM (g.drv _ (bL h1) x hx) with q | ⟨d,hd,rfl⟩
 ·exact Ed q
 ·rw[gq]at hd;refine af (kQ hd.1) fun j hj z3=>?_;subst z3;refine Ew ⟨j,o.top p i hi j ?_,rfl⟩;unfold pre;rewrite[Hv];refine⟨_,hx,?_⟩;unfold iG;rewrite[fP g.outsNd hj];simp[hd.2]
theorem ut(hi:R[p]? =DJ i):¬ Sd N (R.take p) (cA N.cells i).out:=by
 have hic:=(o.mem i).mp (D8 hi);rintro (h | ⟨j,hj,e⟩)
 ·exact oE g hic h
 ·have hjR:j∈R:=FC hj;have:=lI g.outsNd (aX.mp ((o.mem j).mp hjR)).1 (aX.mp hic).1 e;subst this;exact fC o.nd hi hj
theorem rq{p j:Nat}(hj:j∈bj N.cells)(h:Sd N (R.take p) (cA N.cells j).out):R.idxOf j<p:=by
 rcases h with h | ⟨i,hi,e⟩
 ·exact absurd h (oE g hj)
 ·have hiR:i∈R:=FC hi;have:=lI g.outsNd (aX.mp ((o.mem i).mp hiR)).1 (aX.mp hj).1 e;subst this;refine af (s8 hi) fun q hq hq2=>?_;have hlt:=GT.mpr hiR;have h3:R[R.idxOf i]? =DJ i:=by (refine DK (gE hlt) ?_;refine yF (I7 hlt) ?_;rfl)
  have:=(Hk hlt o.nd).mp (h3.trans hq2.symm);exact bS (nat_lit 12129392405538) tt this hq
theorem ff{p:Nat}{x:Int}(h:Sd N (R.take p) x):x∈bq N++outs N:=by
 rcases h with h | ⟨i,hi,rfl⟩
 ·unfold bB at h;rw[DZ]at h ⊢;rcases h with h | h
  ·exact Ed h
  ·refine af (Es.mp h) fun c hc z3=>?_;subst z3;exact Ew (Es.mpr ⟨c,(gr.mp hc).1,rfl⟩)
 ·have hiR:i∈R:=FC hi;exact Fj _ (Es.mpr ⟨_,bL (aX.mp ((o.mem i).mp hiR)).1,rfl⟩)
theorem rt(hi:i∈bj N.cells):R[R.idxOf i]? =DJ i:=by
 have hiR:=(o.mem i).mpr hi;have hlt:=GT.mpr hiR;refine DK (gE hlt) ?_;refine yF (I7 hlt) ?_;rfl
end
noncomputable def vl(N:NL)(R:List Nat)(x:Int):Nat:=match eP N.cells x with
 | some b=>R.idxOf b
 | none=>0
theorem j6(g:cn N)(R:List Nat)(hi:i∈bj N.cells):vl N R (cA N.cells i).out=R.idxOf i:=by
 unfold vl;rewrite[fP g.outsNd (aX.mp hi).1];rfl
noncomputable def vb(W:Int->Nat)(j:Nat):Int->Bool:=fun x=>(W x).testBit j
theorem ta(W:Int->Nat)(ins:List Int)(j:Nat):dw (ins.map W) j=ins.map (vb W j):=by unfold dw vb;refine DK map_map ?_;rfl
theorem jk.bit(g:cn N){pat:AV->Nat}{rows:Nat}{W:Int->Nat}(h:jk N pat rows W){i:Nat}(hi:i∈bj N.cells){j:Nat}(hj:j<rows):vb W j (cA N.cells i).out=tb (cA N.cells i).kind (cA N.cells i).param ((cA N.cells i).ins.map (vb W j)):=by
 refine am (aX.mp hi) fun h1 h2=>?_;show (W (cA N.cells i).out).testBit j=_;refine yF (h.c _ (bL h1) h2) ?_;rewrite[pW hj];refine yF (ta _ _ _) ?_
 ·rfl
 ·intro w hw;refine af (Es.mp hw) fun x hx z3=>?_;subst z3;exact h.lt x (g.drv _ (bL h1) x hx)
theorem jk.v0{pat:AV->Nat}{rows:Nat}{W:Int->Nat}(h:jk N pat rows W)(j:Nat):vb W j 0=false:=by unfold vb;refine yF h.z ?_;simp
theorem jk.v1{pat:AV->Nat}{rows:Nat}{W:Int->Nat}(h:jk N pat rows W){j:Nat}(hj:j<rows):vb W j 1=true:=by unfold vb;refine yF h.o ?_;exact sL hj
theorem jk.ext{pat:AV->Nat}{rows:Nat}{W:Int->Nat}(h:jk N pat rows W){x y:Int}(hx:x∈bq N++outs N)(hy:y∈bq N++outs N)(hv:∀ j,j<rows->vb W j x=vb W j y):W x=W y:=sN (h.lt x hx) (h.lt y hy) hv
structure DI(N:NL)(R:List Nat)(p:Nat)(s:BS):Prop where
 a:∀ x y,s.rep x=DJ y->(∃ q i,q<p/\R[q]? =DJ i/\(cA N.cells i).out=x/\Sd N (R.take q) y)/\s.rep y=none
 b:∀ x y,s.inv x=DJ y->(∃ q i,q<p/\R[q]? =DJ i/\(cA N.cells i).out=x/\Sd N (R.take q) y)/\s.rep y=none
 c:∀ pat rows W,jk N pat rows W->(∀ x y,s.rep x=DJ y->W x=W y)/\∀ x y,s.inv x=DJ y->∀ j,j<rows->vb W j x= !vb W j y
 d:∀ i∈R.take p,(cA N.cells i).kind=aP->(s.rep (cA N.cells i).out).isSome
theorem DI.fin{R:List Nat}{p:Nat}(d:DI N R p s){x:Int}(hx:Sd N (R.take p) x):Sd N (R.take p) (Internal.fin s.rep x)/\s.rep (Internal.fin s.rep x)=none/\∀ pat rows W,jk N pat rows W->W (Internal.fin s.rep x)=W x:=by
 unfold Internal.fin;cases h:s.rep x with
 | none=>exact ⟨hx,h,fun _ _ _ _=>rfl⟩
 | some y=>
  refine am (d.a x y h) fun z1 hn=>?_;refine cp z1 fun q i hq uu uu hs=>?_;clear z1;exact⟨hs.mono (EK hq),hn,fun pat rows W hW=>((d.c pat rows W hW).1 x y h).symm⟩
theorem DI.putRep{R:List Nat}(g:cn N)(o:cP N.cells R){p i:Nat}(d:DI N R p s)(hi:R[p]? =DJ i){y:Int}(hy:Sd N (R.take p) y)(hn:s.rep y=none)(hv:∀ pat rows W,jk N pat rows W->W (cA N.cells i).out=W y):DI N R (p+1) ⟨upd s.rep (cA N.cells i).out y,s.inv⟩:=by
 have hnew:=ut g o hi;have keep:∀ y',Sd N (R.take p) y'->s.rep y'=none->upd s.rep (cA N.cells i).out y y'=none:=by
  intro y' h1 h2;unfold upd;rewrite[if_neg (fun e:(cA N.cells i).out=y'=>hnew (by refine yF e ?_;exact h1))];exact h2
 refine⟨fun x y' h=> ?_,fun x y' h=> ?_,fun pat rows W hW=>⟨fun x y' h=> ?_,(d.c pat rows W hW).2⟩,fun j hj hk=> ?_⟩
 ·simp only[upd]at h;split at h
  ·rename_i e;refine jA h ?_;exact⟨⟨p,i,EA _,hi,e,hy⟩,keep y hy hn⟩
  ·refine am (d.a x y' h) fun z1 h5=>?_;refine cp z1 fun q k h1 h2 h3 h4=>?_;clear z1;exact⟨⟨q,k,Eg h1,h2,h3,h4⟩,keep y' (h4.mono (EK h1)) h5⟩
 ·refine am (d.b x y' h) fun z1 h5=>?_;refine cp z1 fun q k h1 h2 h3 h4=>?_;clear z1;exact⟨⟨q,k,Eg h1,h2,h3,h4⟩,keep y' (h4.mono (EK h1)) h5⟩
 ·simp only[upd]at h;split at h
  ·rename_i e;refine jA h ?_;refine yB e ?_;exact hv pat rows W hW
  ·exact (d.c pat rows W hW).1 x y' h
 ·simp only[upd];split
  ·rfl
  ·rename_i e;rw[bn hi,DZ,DT]at hj;rcases hj with hj | rfl
   ·exact d.d j hj hk
   ·exact absurd rfl e
theorem ye(h:aT aP l p):l=1/\p= .none:=by
 generalize hK:aP=K at h;cases h with
 | buf=>exact ⟨rfl,rfl⟩
 | gate k hk=>subst hK;exact absurd hk (by decide)
 | _=>exact absurd hK (by decide)
theorem yf(h:aT bC l p):l=1/\p= .none:=by
 generalize hK:bC=K at h;cases h with
 | not=>exact ⟨rfl,rfl⟩
 | gate k hk=>subst hK;exact absurd hk (by decide)
 | _=>exact absurd hK (by decide)
theorem DI.step(g:cn N)(o:cP N.cells R)(d:DI N R p s)(hi:R[p]? =DJ i):DI N R (p+1) (iJ N.cells s i):=by
 have hic:=(o.mem i).mp (D8 hi);refine am (aX.mp hic) fun hil hst=>?_;have hok:=g.comb _ (bL hil) hst;have hins:=fun x hx=>oF g o hi (x:=x) hx;have hbit:=fun pat rows W (hW:jk N pat rows W) j (hj:j<rows)=>hW.bit g hic hj;have hvo:(cA N.cells i).out∈bq N++outs N:=Fj _ (Es.mpr ⟨_,bL hil,rfl⟩);have hnew:=ut g o hi;unfold iJ;by_cases hb:(cA N.cells i).kind=aP
 ·refine yF (if_pos hb) ?_;rw[hb]at hok hbit;refine am (ye hok) fun hl hp=>?_;obtain⟨x,hx⟩:∃ x,(cA N.cells i).ins=[x]:=by
   match h:(cA N.cells i).ins,hl with
   | [x],_=>exact ⟨x,rfl⟩
  rw[hx]at hbit hins ⊢;rw[hp]at hbit;have hgd:[x].getD 0 0=x:=rfl;refine yF hgd ?_;refine bY (d.fin (hins x (by simp))) fun f1 f2 f3=>?_;refine d.putRep g o hi f1 f2 (fun pat rows W hW=> ?_);refine yF (f3 pat rows W hW) ?_;refine hW.ext hvo (ff g o (hins x (by simp))) (fun j hj=> ?_);refine DK (hbit pat rows W hW j hj) ?_;refine yF mC ?_;refine yF mN ?_;refine DK (cM _) ?_;rfl
 ·refine yF (if_neg hb) ?_;by_cases hn:(cA N.cells i).kind=bC
  ·refine yF (if_pos hn) ?_;rw[hn]at hok hbit;refine am (yf hok) fun hl hp=>?_;obtain⟨x,hx⟩:∃ x,(cA N.cells i).ins=[x]:=by
    match h:(cA N.cells i).ins,hl with
    | [x],_=>exact ⟨x,rfl⟩
   rw[hx]at hbit hins ⊢;rw[hp]at hbit;have hgd:[x].getD 0 0=x:=rfl;refine yF hgd ?_;refine bY (d.fin (hins x (by simp))) fun f1 f2 f3=>?_;have hnot:∀ pat rows W,jk N pat rows W->∀ j,j<rows->vb W j (cA N.cells i).out= !vb W j (Internal.fin s.rep x):=by
    intro pat rows W hW j hj;have:vb W j (Internal.fin s.rep x)=vb W j x:=by unfold vb;refine yF (f3 pat rows W hW) ?_;rfl
    refine DK (hbit pat rows W hW j hj) ?_;refine yF mC ?_;refine yF mN ?_;refine DK (ip _) ?_;refine yF this ?_;rfl
   generalize Internal.fin s.rep x=y at *;cases hy:s.inv y with
   | some z=>
    refine am (d.b y z hy) fun z1 h5=>?_;refine cp z1 fun q k h1 h2 h3 h4=>?_;clear z1;refine d.putRep g o hi (h4.mono (EK h1)) h5 (fun pat rows W hW=> ?_);refine hW.ext hvo (ff g o h4) (fun j hj=> ?_);refine DK (hnot pat rows W hW j hj) ?_;refine yF ((d.c pat rows W hW).2 y z hy j hj) ?_;simp
   | none=>
    refine⟨fun x y' h=> ?_,fun x' y' h=> ?_,fun pat rows W hW=>⟨(d.c pat rows W hW).1,fun x' y' h=> ?_⟩,fun j hj hk=> ?_⟩
    ·refine am (d.a x y' h) fun z1 h5=>?_;refine cp z1 fun q k h1 h2 h3 h4=>?_;clear z1;exact⟨⟨q,k,Eg h1,h2,h3,h4⟩,h5⟩
    ·simp only[upd]at h;split at h
     ·rename_i e;cases h;exact⟨⟨p,i,EA _,hi,e,f1⟩,f2⟩
     ·refine am (d.b x' y' h) fun z1 h5=>?_;refine cp z1 fun q k h1 h2 h3 h4=>?_;clear z1;exact⟨⟨q,k,Eg h1,h2,h3,h4⟩,h5⟩
    ·simp only[upd]at h;split at h
     ·rename_i e;cases h;refine yB e ?_;exact hnot pat rows W hW
     ·exact (d.c pat rows W hW).2 x' y' h
    ·rw[bn hi,DZ,DT]at hj;rcases hj with hj | rfl
     ·exact d.d j hj hk
     ·rw[hn]at hk;exact absurd hk (by decide)
  ·refine yF (if_neg hn) ?_;refine⟨fun x y' h=> ?_,fun x' y' h=> ?_,d.c,fun j hj hk=> ?_⟩
   ·refine am (d.a x y' h) fun z1 h5=>?_;refine cp z1 fun q k h1 h2 h3 h4=>?_;clear z1;exact⟨⟨q,k,Eg h1,h2,h3,h4⟩,h5⟩
   ·refine am (d.b x' y' h) fun z1 h5=>?_;refine cp z1 fun q k h1 h2 h3 h4=>?_;clear z1;exact⟨⟨q,k,Eg h1,h2,h3,h4⟩,h5⟩
   ·rw[bn hi,DZ,DT]at hj;rcases hj with hj | rfl
    ·exact d.d j hj hk
    ·exact absurd hk hb
theorem DI.all(g:cn N)(o:cP N.cells R):∀ p,p<=R.length->DI N R p (cT N.cells (R.take p)):=by
 intro p;induction p with
 | zero=>intro _;exact⟨fun x y h=>by simp[cT]at h,fun x y h=>by simp[cT]at h,fun _ _ _ _=>⟨fun x y h=>by simp[cT]at h,fun x y h=>by simp[cT]at h⟩,fun i hi=>by simp at hi⟩
 | succ p ih=>
  intro hp;have hi:R[p]? =DJ R[p]:=gE (bu (nat_lit 12129324516800) tt hp);refine yF (bn hi) ?_;refine yF (mM _ _ _) ?_;exact (ih (bu (nat_lit 11029812889024) tt hp)).step g o hi
theorem zo(g:cn N)(o:cP N.cells R):uc N R:=by
 refine⟨fun p hp x y h=>((DI.all g o p hp).a x y h).2,fun i hi _ e=> ?_⟩;have hic:=aX.mp ((o.mem i).mp hi);have:=du (g.comb _ (bL hic.1) hic.2);rw[e]at this;simp at this
theorem zp(g:cn N)(o:cP N.cells R):RB N N.cells (cT N.cells R).rep/\∀ i∈bj N.cells,(cA N.cells i).kind=aP->((cT N.cells R).rep (cA N.cells i).out).isSome:=by
 have d:=DI.all g o R.length (DV _);rw[Ef]at d;refine⟨⟨rfl,fun _ _=>rfl,fun _ _ _=>rfl,fun _ _ h=>h,fun x y h=> ?_,fun x y h=>(d.a x y h).2,fun x y h=> ?_,fun i hi _=> ?_,⟨vl N R,fun i hi hr x hx j hj e=> ?_⟩,fun pat rows W hW=>⟨(d.c pat rows W hW).1,fun i hi _=> ?_⟩⟩,fun i hi hk=>d.d i (by refine yF Ef ?_;exact (o.mem i).mpr hi) hk⟩
 ·refine am (d.a x y h) fun z1 uu=>?_;refine cp z1 fun q i uu h1 h2 uu=>?_;clear z1;exact⟨i,(o.mem i).mp (D8 h1),h2⟩
 ·refine am (d.a x y h) fun z1 uu=>?_;refine cp z1 fun q i uu uu uu h3=>?_;clear z1;exact ff g o h3
 ·refine am (aX.mp hi) fun h1 h2=>?_;exact⟨g.comb _ (bL h1) h2,fun x hx=>g.drv _ (bL h1) x hx⟩
 ·refine yF (j6 g R hj) ?_;refine yF (j6 g R hi) ?_;have hp:=rt g o hi;have hsx:=oF g o hp hx;cases hrx:(cT N.cells R).rep x with
  | none=>
   have e2:(cA N.cells j).out=x:=by refine DK e ?_;unfold Internal.fin;refine yF hrx ?_;rfl
   rw[<- e2]at hsx;exact rq g o hj hsx
  | some y=>
   have e2:(cA N.cells j).out=y:=by refine DK e ?_;unfold Internal.fin;refine yF hrx ?_;rfl
   refine am (d.a x y hrx) fun z1 h5=>?_;refine cp z1 fun q k h1 h2 h3 h4=>?_;clear z1;rw[<- e2]at h4;have l1:=rq g o hj h4;rw[<- h3]at hsx;have hk:=(o.mem k).mp (D8 h2);have l2:=rq g o hk hsx;have:R.idxOf k=q:=by
    have h6:=rt g o hk;have hlt:=(gS.mp h6).1;exact (Hk hlt o.nd).mp (h6.trans h2.symm)
   exact kt (nat_lit 397454830901242915) tt l1 this l2
 ·refine am (aX.mp hi) fun h1 h2=>?_;exact hW.c _ (bL h1) h2
end
theorem qe{l:List aj}{i:Nat}{c:aj}(h:i<l.length):cA (l.set i c) i=c:=n3 (by (refine DK (Fu h) ?_;rfl))
theorem mz(h:i≠j):cA (l.set i c) j=cA l j:=by
 unfold cA;refine DK Ei ?_;refine yF Ei ?_;refine yF (gN h) ?_;rfl
structure AK(N:NL)(R:List Nat)(q:Nat)(rep:Int->Option Int)(i:Nat)(c:aj):Prop where
 nf:bX c.kind c.ins
 ok:aT c.kind c.ins.length c.param
 sd:∀ x∈c.ins,Sd N (R.take q) x/\rep x=none
 va:∀ pat rows W,jk N pat rows W->∀ j,j<rows->vb W j (cA N.cells i).out=tb c.kind c.param (c.ins.map (vb W j))
structure FI(N:NL)(R:List Nat)(p:Nat)(s:FS):Prop where
 l:s.cells.length=N.cells.length
 u:∀ i,i<N.cells.length->i∉R.take p->cA s.cells i=cA N.cells i
 a:∀ x y,s.rep x=DJ y->(∃ q i,q<p/\R[q]? =DJ i/\(cA N.cells i).out=x/\Sd N (R.take q) y)/\s.rep y=none
 b:∀ x y,s.inv x=DJ y->Sd N (R.take p) x/\Sd N (R.take p) y/\s.rep x=none/\s.rep y=none
 c:∀ pat rows W,jk N pat rows W->(∀ x y,s.rep x=DJ y->W x=W y)/\∀ x y,s.inv x=DJ y->∀ j,j<rows->vb W j x= !vb W j y
 d:∀ q i,q<p->R[q]? =DJ i->(s.rep (cA N.cells i).out).isSome\/AK N R q s.rep i (cA s.cells i)
 e:∀ i,i<N.cells.length->(cA s.cells i).ins.length<=100/\(cA s.cells i).out=(cA N.cells i).out/\bh (cA s.cells i).kind=bh (cA N.cells i).kind
theorem FI.fin{R:List Nat}{p:Nat}(d:FI N R p s){x:Int}(hx:Sd N (R.take p) x):Sd N (R.take p) (Internal.fin s.rep x)/\s.rep (Internal.fin s.rep x)=none/\∀ pat rows W,jk N pat rows W->W (Internal.fin s.rep x)=W x:=by
 unfold Internal.fin;cases h:s.rep x with
 | none=>exact ⟨hx,h,fun _ _ _ _=>rfl⟩
 | some y=>
  refine am (d.a x y h) fun z1 hn=>?_;refine cp z1 fun q i hq uu uu hs=>?_;clear z1;exact⟨hs.mono (EK hq),hn,fun pat rows W hW=>((d.c pat rows W hW).1 x y h).symm⟩
theorem yg(F:F3)(v:Int->Bool):wn F v=tb F.kind F.param (F.ins.map v):=rfl
theorem FI.step{N:NL}{R:List Nat}(g:cn N)(o:cP N.cells R){p i:Nat}{s:FS}(d:FI N R p s)(hi:R[p]? =DJ i):FI N R (p+1) (et s i):=by
 have hic:=(o.mem i).mp (D8 hi);refine am (aX.mp hic) fun hil hst=>?_;have hni:=fC o.nd hi;have hcell:=d.u i hil hni;have hok:=g.comb _ (bL hil) hst;have hnew:=ut g o hi;have hvo:(cA N.cells i).out∈bq N++outs N:=Fj _ (Es.mpr ⟨_,bL hil,rfl⟩);have hins:∀ x∈(cA N.cells i).ins.map (Internal.fin s.rep),Sd N (R.take p) x/\s.rep x=none:=by
  intro x hx;refine af (Es.mp hx) fun y hy z3=>?_;subst z3;refine bY (d.fin (oF g o hi hy)) fun f1 f2 uu=>?_;exact⟨f1,f2⟩
 have hn:∀ x∈(cA N.cells i).ins.map (Internal.fin s.rep),0<=x:=fun x hx=>g.nn x (ff g o (hins x hx).1);have hF:gU s i=ck (cA N.cells i).kind (cA N.cells i).param ((cA N.cells i).ins.map (Internal.fin s.rep)) s.inv:=by unfold gU;refine yF hcell ?_;rfl
 have hr2:=ww (inv:=s.inv) (ins:=(cA N.cells i).ins.map (Internal.fin s.rep)) (by refine yF (DR _) ?_;exact hok) hn;rw[<- hF]at hr2;have hval:∀ pat rows W,jk N pat rows W->∀ j,j<rows->vb W j (cA N.cells i).out=wn (gU s i) (vb W j):=by
  intro pat rows W hW j hj;refine yF hF ?_;refine yF (us (ins:=(cA N.cells i).ins.map (Internal.fin s.rep)) (by refine yF (DR _) ?_;exact hok) hn (hW.v0 j) (hW.v1 hj) (fun x y h=>(d.c pat rows W hW).2 x y h j hj)) ?_;refine DK (hW.bit g hic hj) ?_;refine yF map_map ?_;congr 1;apply EX;intro x hx;show vb W j x=vb W j (Internal.fin s.rep x);unfold vb;refine yF ((d.fin (oF g o hi hx)).2.2 pat rows W hW) ?_;rfl
 have hrep_out:s.rep (cA N.cells i).out=none:=by
  cases h:s.rep (cA N.cells i).out with
  | none=>rfl
  | some y=>
   refine am (d.a _ y h) fun z1 uu=>?_;refine cp z1 fun q k h1 h2 h3 uu=>?_;clear z1;exact absurd (Ew ⟨k,jF h1 h2,h3⟩) hnew
 have hidx:∀ q k,q<p->R[q]? =DJ k->k≠i:=fun q k hq hk e=>hni (by refine yB e ?_;exact jF hq hk);unfold et;refine yF hcell ?_;generalize gU s i=F at *;clear hF;by_cases hb:F.kind=aP
 ·refine yF (if_pos hb) ?_;obtain⟨y,hFy,hy⟩:∃ y,F=⟨aP,[y],.none⟩/\(y=0\/y=1\/y∈(cA N.cells i).ins.map (Internal.fin s.rep)\/∃ x∈(cA N.cells i).ins.map (Internal.fin s.rep),s.inv x=DJ y):=by
   cases hr2 with
   | buf y hy=>exact ⟨y,rfl,hy⟩
   | not x _ _ _=>exact absurd hb (show bC≠aP by decide)
   | oth F h1=>exact absurd hb h1
  subst hFy;have src01:∀ z:Int,z=0\/z=1->Sd N (R.take p) z/\s.rep z=none:=by
   intro z hz;have hz2:z∈bB N:=by unfold bB bq;rcases hz with rfl | rfl<;>simp
   refine⟨Ed hz2,?_⟩;cases h:s.rep z with
   | none=>rfl
   | some w=>
    refine am (d.a z w h) fun z1 uu=>?_;refine cp z1 fun q k uu h2 h3 uu=>?_;clear z1;exact absurd (by refine yF h3 ?_;exact hz2) (oE g ((o.mem k).mp (D8 h2)))
  have hyy:Sd N (R.take p) y/\s.rep y=none:=by
   rcases hy with q | q | q | ⟨x,_,q⟩
   ·exact src01 y (Ed q)
   ·exact src01 y (Ew q)
   ·exact hins y q
   ·refine eQ (d.b x y q) fun uu h2 uu h4=>?_;exact⟨h2,h4⟩
  have hgd:[y].getD 0 0=y:=rfl;simp only[hgd];have keep:∀ y',Sd N (R.take p) y'->s.rep y'=none->upd s.rep (cA N.cells i).out y y'=none:=by
   intro y' h1 h2;unfold upd;rewrite[if_neg (fun e:(cA N.cells i).out=y'=>hnew (by refine yF e ?_;exact h1))];exact h2
  refine⟨d.l,fun k hk hkn=>d.u k hk (fun h=>hkn (by refine yF (bn hi) ?_;exact Fv _ h)),fun x y' h=> ?_,fun x y' h=> ?_,fun pat rows W hW=>⟨fun x y' h=> ?_,(d.c pat rows W hW).2⟩,fun q k hq hk=> ?_,d.e⟩
  ·simp only[upd]at h;split at h
   ·rename_i e;cases h;exact⟨⟨p,i,EA _,hi,e,hyy.1⟩,keep y hyy.1 hyy.2⟩
   ·refine am (d.a x y' h) fun z1 h5=>?_;refine cp z1 fun q k h1 h2 h3 h4=>?_;clear z1;exact⟨⟨q,k,Eg h1,h2,h3,h4⟩,keep y' (h4.mono (EK h1)) h5⟩
  ·refine eQ (d.b x y' h) fun h1 h2 h3 h4=>?_;exact⟨h1.mono (D5 _ _),h2.mono (D5 _ _),keep x h1 h3,keep y' h2 h4⟩
  ·simp only[upd]at h;split at h
   ·rename_i e;cases h;refine yB e ?_;refine hW.ext hvo (ff g o hyy.1) (fun j hj=> ?_);refine DK (hval pat rows W hW j hj) ?_;refine DK (yg _ _) ?_;refine yF mC ?_;refine yF mN ?_;refine yF (cM _) ?_;rfl
   ·exact (d.c pat rows W hW).1 x y' h
  ·by_cases hqp:q<p
   ·rcases d.d q k hqp hk with h | h
    ·left
     simp only[upd];split
     ·rfl
     ·exact h
    ·right
     exact⟨h.nf,h.ok,fun x hx=>⟨(h.sd x hx).1,keep x ((h.sd x hx).1.mono (FT hq)) (h.sd x hx).2⟩,h.va⟩
   ·have:q=p:=Eo (bu (nat_lit 11029854074912) tt hq) (bu (nat_lit 336603168) tt (E6 hqp));subst this;rw[hi]at hk;cases hk;left
    simp[upd]
 ·refine yF (if_neg hb) ?_;have hF2:bX F.kind F.ins/\aT F.kind F.ins.length F.param/\(∀ x∈F.ins,x∈(cA N.cells i).ins.map (Internal.fin s.rep))/\(F.kind=bC->∃ x,F.ins=[x]/\F.param= .none):=by
   cases hr2 with
   | buf y hy=>exact absurd rfl hb
   | not x h1 h2 h3=>exact ⟨bX.not x h2,aT.not,fun y hy=>by rw[DT]at hy;subst hy;exact h1,fun _=>⟨x,rfl,rfl⟩⟩
   | oth F h1 h2 h3 h4 h5=>exact ⟨h3,h4,h5,fun e=>absurd e h2⟩
  refine eQ hF2 fun hnf hcok hsub hnot=>?_;clear hF2;have hstay:AK N R p s.rep i ⟨F.kind,(cA N.cells i).out,F.ins,F.param⟩:=⟨hnf,hcok,fun x hx=>hins x (hsub x hx),fun pat rows W hW j hj=>hval pat rows W hW j hj⟩;have hlen:=du hcok;have hil2:i<s.cells.length:=by refine yF d.l ?_;exact hil
  have hinv:∀ x y,(if F.kind=bC then upd (upd s.inv (cA N.cells i).out (F.ins.getD 0 0)) (F.ins.getD 0 0) (cA N.cells i).out else s.inv) x=DJ y->s.inv x=DJ y\/(F.kind=bC/\∃ z,F.ins=[z]/\F.param= .none/\z∈(cA N.cells i).ins.map (Internal.fin s.rep)/\((x=z/\y=(cA N.cells i).out)\/(x=(cA N.cells i).out/\y=z))):=by
   intro x y h;by_cases hk:F.kind=bC
   ·rw[if_pos hk]at h;refine af (hnot hk) fun z hz hp=>?_;have hgd:F.ins.getD 0 0=z:=by refine yF hz ?_;rfl
    rw[hgd]at h;have hzi:=hsub z (by refine yF hz ?_;simp);simp only[upd]at h;split at h
    ·rename_i e;cases h;exact Ew ⟨hk,z,hz,hp,hzi,Ed ⟨e.symm,rfl⟩⟩
    ·split at h
     ·rename_i e;have h:=EU h;exact Ew ⟨hk,z,hz,hp,hzi,Ew ⟨e.symm,h.symm⟩⟩
     ·exact Ed h
   ·rw[if_neg hk]at h;exact Ed h
  have hvn:∀ z,F.kind=bC->F.ins=[z]->F.param= .none->∀ pat rows W,jk N pat rows W->∀ j,j<rows->vb W j (cA N.cells i).out= !vb W j z:=by
   intro z h1 h2 h3 pat rows W hW j hj;refine DK (hval pat rows W hW j hj) ?_;dsimp only[yg];refine yF h1 ?_;refine yF h2 ?_;refine yF h3 ?_;refine yF mC ?_;refine yF mN ?_;refine DK (ip _) ?_;rfl
  have hso:Sd N (R.take (p+1)) (cA N.cells i).out:=Ew ⟨i,jF (EA _) hi,rfl⟩;refine⟨by simp only[Fw];exact d.l,fun k hk hkn=> ?_,fun x y' h=> ?_,fun x y' h=> ?_,fun pat rows W hW=>⟨(d.c pat rows W hW).1,fun x y' h=> ?_⟩,fun q k hq hk=> ?_,fun k hk=> ?_⟩
  ·have hki:i≠k:=fun e=>hkn (by refine yB e ?_;exact jF (EA _) hi);simp only;refine DK (mz hki) ?_;exact d.u k hk (fun h=>hkn (by refine yF (bn hi) ?_;exact Fv _ h))
  ·refine am (d.a x y' h) fun z1 h5=>?_;refine cp z1 fun q k h1 h2 h3 h4=>?_;clear z1;exact⟨⟨q,k,Eg h1,h2,h3,h4⟩,h5⟩
  ·rcases hinv x y' h with h | ⟨_,z,_,_,hz,(⟨rfl,rfl⟩ | ⟨rfl,rfl⟩)⟩
   ·refine eQ (d.b x y' h) fun h1 h2 h3 h4=>?_;exact⟨h1.mono (D5 _ _),h2.mono (D5 _ _),h3,h4⟩
   ·exact⟨(hins _ hz).1.mono (D5 _ _),hso,(hins _ hz).2,hrep_out⟩
   ·exact⟨hso,(hins _ hz).1.mono (D5 _ _),hrep_out,(hins _ hz).2⟩
  ·intro j hj;rcases hinv x y' h with h | ⟨h1,z,h2,h3,hz,(⟨rfl,rfl⟩ | ⟨rfl,rfl⟩)⟩
   ·exact (d.c pat rows W hW).2 x y' h j hj
   ·refine yF (hvn _ h1 h2 h3 pat rows W hW j hj) ?_;simp
   ·exact hvn _ h1 h2 h3 pat rows W hW j hj
  ·by_cases hqp:q<p
   ·rcases d.d q k hqp hk with h | h
    ·exact Ed h
    ·right
     have hki:i≠k:=fun e=>hidx q k hqp hk e.symm;simp only;refine yF (mz hki) ?_;exact h
   ·have:q=p:=Eo (bu (nat_lit 11029854074912) tt hq) (bu (nat_lit 336603168) tt (E6 hqp));subst this;rw[hi]at hk;cases hk;right
    simp only;refine yF (qe hil2) ?_;exact hstay
  ·simp only;by_cases hki:i=k
   ·subst hki;refine yF (qe hil2) ?_;exact⟨by simp only;exact dm (nat_lit 11706403474880) tt hlen.2,rfl,by simp only;(refine DK (pU hcok) ?_;refine yF hst ?_;rfl)⟩
   ·refine yF (mz hki) ?_;exact d.e k hk
theorem FI.all(g:cn N)(o:cP N.cells R):∀ p,p<=R.length->FI N R p (aH N.cells (R.take p)):=by
 intro p;induction p with
 | zero=>
  intro _;exact⟨rfl,fun _ _ _=>rfl,fun x y h=>by simp[aH]at h,fun x y h=>by simp[aH]at h,fun _ _ _ _=>⟨fun x y h=>by simp[aH]at h,fun x y h=>by simp[aH]at h⟩,fun q i hq=>by norm_cast,fun i hi=>⟨by have:=g.small.ni _ (bL hi);simp only[IR,aH,Hh];exact DO this (by decide),rfl,rfl⟩⟩
 | succ p ih=>
  intro hp;have hi:R[p]? =DJ R[p]:=gE (bu (nat_lit 12129324516800) tt hp);refine yF (bn hi) ?_;refine yF (mL _ _ _) ?_;exact (ih (bu (nat_lit 11029812889024) tt hp)).step g o hi
theorem zq(g:cn N)(o:cP N.cells R):ub N R:=by
 refine⟨fun p hp x y h=>((FI.all g o p hp).a x y h).2,fun p i hi=> ?_,fun p i hi x hx=> ?_,fun c hc=> ?_⟩
 ·have hp:=(gS.mp hi).1;have d:=FI.all g o p (EK hp);refine am (aX.mp ((o.mem i).mp (D8 hi))) fun h1 h2=>?_;refine yF (d.u i h1 (fC o.nd hi)) ?_;exact g.comb _ (bL h1) h2
 ·have hp:=(gS.mp hi).1;have d:=FI.all g o p (EK hp);refine am (aX.mp ((o.mem i).mp (D8 hi))) fun h1 h2=>?_;rw[d.u i h1 (fC o.nd hi)]at hx;exact g.nn _ (ff g o (d.fin (oF g o hi hx)).1)
 ·have d:=FI.all g o R.length (DV _);rw[Ef]at d;refine af (kQ hc) fun i hi z3=>?_;subst z3;rw[d.l]at hi;exact (d.e i hi).1
theorem zr(g:cn N)(o:cP N.cells R):RB N (aH N.cells R).cells (aH N.cells R).rep/\∀ c∈(lH N R).cells,bX c.kind c.ins:=by
 have d:=FI.all g o R.length (DV _);rw[Ef]at d;have stay:∀ i∈bj N.cells,(aH N.cells R).rep (cA N.cells i).out=none->AK N R (R.idxOf i) (aH N.cells R).rep i (cA (aH N.cells R).cells i):=by
  intro i hi hr;have h:=rt g o hi;rcases d.d _ i (gS.mp h).1 h with q | q
  ·rw[hr]at q;exact fT q
  ·exact q
 have hu:∀ i,i<N.cells.length->bh (cA N.cells i).kind=true->cA (aH N.cells R).cells i=cA N.cells i:=by
  intro i hi hk;refine d.u i hi (fun h=> ?_);rw[Ef]at h;have:=(aX.mp ((o.mem i).mp h)).2;rw[hk]at this;exact tF this
 have rb:RB N (aH N.cells R).cells (aH N.cells R).rep:=by
  refine⟨d.l,fun i hi=>(d.e i hi).2.1,hu,fun i hi h=>by refine yF ((d.e i hi).2.2) ?_;exact h,fun x y h=> ?_,fun x y h=>(d.a x y h).2,fun x y h=> ?_,fun i hi hr=> ?_,⟨vl N R,fun i hi hr x hx j hj e=> ?_⟩,fun pat rows W hW=>⟨(d.c pat rows W hW).1,fun i hi hr=> ?_⟩⟩
  ·refine am (d.a x y h) fun z1 uu=>?_;refine cp z1 fun q i uu h1 h2 uu=>?_;clear z1;exact⟨i,(o.mem i).mp (D8 h1),h2⟩
  ·refine am (d.a x y h) fun z1 uu=>?_;refine cp z1 fun q i uu uu uu h3=>?_;clear z1;exact ff g o h3
  ·have s:=stay i hi hr;exact⟨s.ok,fun x hx=>ff g o (s.sd x hx).1⟩
  ·have s:=stay i hi hr;refine am (s.sd x hx) fun s1 s2=>?_;refine yF (j6 g R hj) ?_;refine yF (j6 g R hi) ?_;have e2:(cA N.cells j).out=x:=by refine DK e ?_;unfold Internal.fin;refine yF s2 ?_;rfl
   rw[<- e2]at s1;exact rq g o hj s1
  ·have s:=stay i hi hr;have hil:=(aX.mp hi).1;refine sN (hW.lt _ (Fj _ (Es.mpr ⟨_,bL hil,rfl⟩))) sM (fun j hj=> ?_);rewrite[pW hj];refine yF (ta _ _ _) ?_
   ·exact s.va pat rows W hW j hj
   ·intro w hw;refine af (Es.mp hw) fun x hx z3=>?_;subst z3;exact hW.lt x (ff g o (s.sd x hx).1)
 refine⟨rb,fun c hc=> ?_⟩;refine aM (rb.cells hc) fun i hi hr z4=>?_;subst z4;cases hk:bh (cA N.cells i).kind with
 | true=>
  refine yF (hu i hi hk) ?_;show bX (cA N.cells i).kind ((cA N.cells i).ins.map _);have:=g.st _ (bL hi) hk;generalize (cA N.cells i).ins.map (Internal.fin (aH N.cells R).rep)=l;generalize (cA N.cells i).ins.length=n at *;generalize (cA N.cells i).kind=k at *;generalize (cA N.cells i).param=p at *;cases this with
  | flop=>exact bX.flop l
  | latch=>exact bX.latch l
 | false=>
  have s:=stay i (aX.mpr ⟨hi,hk⟩) hr;show bX (cA (aH N.cells R).cells i).kind ((cA (aH N.cells R).cells i).ins.map _);have hid:(cA (aH N.cells R).cells i).ins.map (Internal.fin (aH N.cells R).rep)=(cA (aH N.cells R).cells i).ins:=by
   conv=>rhs;rw[<- map_id (cA (aH N.cells R).cells i).ins]
   apply EX;intro x hx;unfold Internal.fin;refine yF ((s.sd x hx).2) ?_;rfl
  refine yF hid ?_;exact s.nf
theorem lJ{l:List aj}{S:List Nat}{c:aj}:c∈aG l S↔∃ i,i<l.length/\i∈S/\cA l i=c:=by
 unfold aG;rewrite[Es];constructor
 ·intro z1;refine af z1 fun i hi e=>?_;clear z1;rw[E5,E7]at hi;exact⟨i,hi.1,by simpa using hi.2,e⟩
 ·intro z1;refine aM z1 fun i h1 h2 e=>?_;clear z1;exact⟨i,by (rewrite[E5];rewrite[E7]);exact⟨h1,by simpa using h2⟩,e⟩
theorem mR(l:List aj):(Ec l.length).map (cA l)=l:=by
 apply FU;intro j;refine DK DX ?_;by_cases hj:j<l.length
 ·refine yF (Ff hj) ?_;refine yF (gQ hj) ?_;rfl
 ·refine yF (EN (by simp;exact Fe.mp hj)) ?_;refine yF (EN (Fe.mp hj)) ?_;rfl
theorem yh(l:List aj)(S:List Nat):(aG l S).Sublist l:=by
 unfold aG;conv=>rhs;rw[<- mR l]
 exact Gj _ KQ
theorem AL(x:Int):Internal.fin (fun _=>none) x=x:=rfl
theorem oG(l:List Int):l.map (Internal.fin (fun _=>none))=l:=by
 conv=>rhs;rw[<- map_id l]
 exact EX fun x _=>AL x
theorem nh(N:NL)(S:List Nat):kb N S=⟨N.name,N.count,N.inputs,N.outputs,aG N.cells S⟩:=by
 unfold kb be;have h1:(aG N.cells S).filter (fun c=>((fun _=>none:Int->Option Int) c.out).isNone)=aG N.cells S:=by
  rewrite[KR];intro c _;rfl
 have h2:(aG N.cells S).map (fc fun _=>none)=aG N.cells S:=by
  conv=>rhs;rw[<- map_id (aG N.cells S)]
  apply EX;intro c _;obtain⟨k,o,i,p⟩:=c;show (⟨k,o,i.map (Internal.fin fun _=>none),p⟩:aj)=⟨k,o,i,p⟩;refine yF (oG _) ?_;rfl
 have h3:(N.outputs.map fun p=>(p.1,p.2.map (Internal.fin fun _=>none)))=N.outputs:=by
  conv=>rhs;rw[<- map_id N.outputs]
  apply EX;intro p _;show (p.1,p.2.map (Internal.fin fun _=>none))=p;refine yF (oG _) ?_;rfl
 refine yF h1 ?_;refine yF h2 ?_;refine yF h3 ?_;rfl
theorem yi{N:NL}{S:List Nat}(g:cn N)(u:dN N S):Tr N (kb N S):=by
 refine yF (nh _ _) ?_;have hsub:=yh N.cells S;have hsup:∀ x∈bq N++outs N,(∀ b,eP N.cells x=DJ b->b∈S)->x∈bq N++(aG N.cells S).map (·.out):=by
  intro x hx hb;rw[DZ]at hx ⊢;rcases hx with h | h
  ·exact Ed h
  ·right
   refine af (Es.mp h) fun c hc z3=>?_;subst z3;refine af (kQ hc) fun i hi z3=>?_;subst z3;exact Es.mpr ⟨_,lJ.mpr ⟨i,hi,hb i (fP g.outsNd hi),rfl⟩,rfl⟩
 have hdown:∀ x,x∈bq N++(aG N.cells S).map (·.out)->x∈bq N++outs N:=by
  intro x hx;rw[DZ]at hx ⊢;rcases hx with h | h
  ·exact Ed h
  ·exact Ew ((Gj _ hsub).mem h)
 have hnm:(bf (aG N.cells S)).Sublist (bf N.cells):=by
  unfold bf;exact Gj _ (Nj _ hsub)
 have hsm:=g.small;refine⟨⟨⟨hsm.ci,hsm.co,DO hsub.length_le hsm.cc,hsm.pi,hsm.po,fun c hc=>hsm.ni c (hsub.mem hc)⟩,?_,fun c hc hk=>g.comb c (hsub.mem hc) hk,fun c hc hk=>g.st c (hsub.mem hc) hk,fun c hc x hx=> ?_,fun x hx=>hsup x (g.drvO x hx) (fun b hb=>u.cl.1 x hx b hb),fun x hx=>g.nn x (hdown x hx),?_,?_,?_⟩,fun k hk=> ?_,fun pat rows W hs=>⟨⟨hs.z,hs.o,hs.i,fun c hc hk=>hs.s c (hsub.mem hc) hk,fun c hc hk=>hs.c c (hsub.mem hc) hk,fun x hx=>hs.lt x (hdown x hx)⟩,⟨rfl,rfl,rfl,fun c hc=>⟨c,?_,rfl,rfl,rfl,rfl⟩⟩⟩⟩
 ·exact Hi (IT (JJ _) (Gj _ hsub)) g.nd
 ·refine aM (lJ.mp hc) fun i h1 h2 z4=>?_;subst z4;exact hsup x (g.drv _ (bL h1) x hx) (fun b hb=>u.cl.2 i h2 h1 x hx b hb)
 ·refine aq g.acyc fun rank hr=>?_;exact⟨rank,fun c hc hk d hd hkd hin=>hr c (hsub.mem hc) hk d (hsub.mem hd) hkd hin⟩
 ·exact Hi hnm g.nmz
 ·have:=hnm.length_le;have:=g.bits;show (ar N.inputs).length+(bf (aG N.cells S)).length<=6;exact bS (nat_lit 12634003214823156293696) tt ‹_› this
 ·rw[fD,DZ]at hk ⊢;rcases hk with h | h
  ·exact Ed h
  ·exact Ew ((Gj _ hnm).mem h)
 ·rw[gr]at hc ⊢;exact⟨hsub.mem hc.1,hc.2⟩
theorem zt{N:NL}{S S':List Nat}(g:cn N)(u:dN N S)(u':dN (kb N S) S'):aG (kb N S).cells S'=(kb N S).cells:=by
 have gB:=(yi g u).good;have hcells:(kb N S).cells=aG N.cells S:=by (refine yF (nh _ _) ?_;rfl)
 have houts:(kb N S).outputs=N.outputs:=by (refine yF (nh _ _) ?_;rfl)
 have hout:=gB.outsNd;generalize kb N S=B at *;have hB:∀ j,j<B.cells.length->∃ i,i<N.cells.length/\i∈S/\cA N.cells i=cA B.cells j:=by
  intro j hj;have:=bL hj;rw[hcells]at this;refine aM (lJ.mp this) fun i a b c=>?_;exact⟨i,a,b,by (refine DK c ?_;refine yB hcells ?_;rfl)⟩
 have hS:∀ b,b<N.cells.length->b∈S->∃ j,j<B.cells.length/\cA B.cells j=cA N.cells b/\eP B.cells (cA N.cells b).out=DJ j:=by
  intro b h1 h2;have hm:cA N.cells b∈B.cells:=by refine yF hcells ?_;exact lJ.mpr ⟨b,h1,h2,rfl⟩
  refine af (kQ hm) fun j hj e=>?_;exact⟨j,hj,e,by refine yB e ?_;exact fP hout hj⟩
 have key:∀ i∈S,∃ j,j∈S'/\(cA B.cells j).out=(cA N.cells i).out:=by
  refine u.mn (fun i=>∃ j,j∈S'/\(cA B.cells j).out=(cA N.cells i).out) ⟨fun x hx b hb=> ?_,fun i hi hil x hx b hb=> ?_⟩
  ·have hbS:=u.cl.1 x hx b hb;refine am (iN hb) fun hb1 hb2=>?_;refine aM (hS b hb1 hbS) fun j hj e hd=>?_;rw[hb2]at hd;exact⟨j,u'.cl.1 x (by refine yF houts ?_;exact hx) j hd,by (refine yF e ?_;rfl)⟩
  ·refine af hi fun j hj e=>?_;clear hi;have hjl:=u'.lt j hj;refine aM (hB j hjl) fun i' h1 h2 h3=>?_;have hii:i'=i:=lI g.outsNd h1 hil (by (refine yF h3 ?_;refine DK e ?_;rfl));subst hii;have hbS:=u.cl.2 i' h2 hil x hx b hb;refine am (iN hb) fun hb1 hb2=>?_;refine aM (hS b hb1 hbS) fun j' hj' e' hd=>?_;rw[hb2]at hd;exact⟨j',u'.cl.2 j hj hjl x (by refine yB h3 ?_;exact hx) j' hd,by (refine yF e' ?_;rfl)⟩
 unfold aG;have:(Ec B.cells.length).filter (fun i=>decide (i∈S'))=Ec B.cells.length:=by
  rewrite[KR];intro j hj;rw[E7]at hj;refine aM (hB j hj) fun i h1 h2 h3=>?_;refine af (key i h2) fun j' hj' e=>?_;have:=lI hout (u'.lt j' hj') hj (by (refine DK e ?_;refine yF h3 ?_;rfl));subst this;simpa using hj'
 refine yF this ?_;refine DK (mR _) ?_;rfl
theorem BJ:zV:=by
 refine⟨fun N g R o=>zq g o,fun N g R o=> ?_,fun N g R o=>zo g o,fun N g R o=> ?_,fun N g S u=>⟨yi g u,by (refine yF (nh _ _) ?_;rfl),fun S' u'=>zt g u u'⟩⟩
 ·refine am (zr g o) fun rb nf=>?_;exact⟨rb.tr g,nf,rb.names g.outsNd⟩
 ·refine am (zp g o) fun rb nb=>?_;refine⟨rb.tr g,fun c hc hk=> ?_,rb.names g.outsNd⟩;refine aM (rb.cells hc) fun i hi hr z4=>?_;subst z4;have hk':(cA N.cells i).kind=aP:=hk;have hst:bh (cA N.cells i).kind=false:=by refine yF hk' ?_;decide
  have:=nb i (aX.mpr ⟨hi,hst⟩) hk';rw[hr]at this;exact fT this
theorem plain(zs:List Int)(h:zs.length<=63):∃ m' H',cF (ad P 1000 20) 1000 (pI.body.drop 1) jE [.list ((zs.take 63).map .int)]=DJ (.ret (.bool true),m',H'):=xR BJ zs h
end
end
end Mine.Internal
section
open PySem PySem.W PyProof.Rows
namespace Mine.Internal
abbrev Jm:=List Addr
abbrev ba(its:Array DW)(n:Nat):Obj:={ cls:= .type "tuple",data:= .seq its n }
mutual
noncomputable def cb(J:Jm)(h:Heap):AV->DW->Prop
 | .none,v=>v= .none
 | .bool b,v=>v= .bool b
 | .int i,v=>∃ t,v= .int i t
 | .str s,v=>(∀ c∈s,c<1114112)/\∃ t,v= .str ⟨s.toArray⟩ t
 | .tup vs,v=>∃ a its n,v= .ref a/\h.get? a=DJ (ba its n)/\cE J h vs its.toList/\its.size<=2097152
 | .ref k,v=>∃ a,J[k]? =DJ a/\v= .ref a
noncomputable def cE(J:Jm)(h:Heap):List AV->List DW->Prop
 | [],l=>l=[]
 | x::xs,l=>∃ y ys,l=y::ys/\cb J h x y/\cE J h xs ys
end
noncomputable def gY(w:World):AV->Int
 | .int i=>Lk i
 | .str s=>I9 w ⟨s.toArray⟩
 | _=>0
structure bV(J J':Jm)(h h':Heap)(own:Addr->Prop):Prop where
 pre:J <+: J'
 new:∀ a∈J',a∈J\/h.get? a=none
 keep:∀ a o,h.get? a=DJ o->a∉J->¬ own a->h'.get? a=DJ o
 tup:∀ a its n,h.get? a=DJ (ba its n)->h'.get? a=DJ (ba its n)
 alive:∀ a,h.get? a≠none->h'.get? a≠none
noncomputable def bF:Addr->Prop:=fun _=>False
theorem bV.refl(J:Jm)(h:Heap)(own):bV J J h h own:=⟨EB,fun _ x=> .inl x,fun _ _ e _ _=>e,fun _ _ _ e=>e,fun _ e=>e⟩
theorem bV.trans{own}(x:bV J J' h h' own)(y:bV J' J'' h' h'' own):bV J J'' h h'' own where
 pre:=x.pre.trans y.pre
 new:=fun a ha=>by
  rcases y.new a ha with q | q
  ·exact x.new a q
  ·right
   cases e:h.get? a with
   | none=>rfl
   | some o=>exact absurd q (x.alive a (by refine yF e ?_;simp))
 keep:=fun a o e hJ ho=>y.keep a o (x.keep a o e hJ ho) (fun q=>(x.new a q).elim hJ (fun z=>by rw[z]at e;cases e)) ho
 tup:=fun a its n e=>y.tup a its n (x.tup a its n e)
 alive:=fun a e=>y.alive a (x.alive a e)
theorem bV.weaken{own own':Addr->Prop}(x:bV J J' h h' own)(k:∀ a,own a->own' a):bV J J' h h' own':=
 ⟨x.pre,x.new,fun a o e hJ ho=>x.keep a o e hJ (fun q=>ho (k a q)),x.tup,x.alive⟩
theorem bV.of_keeps{own}(k:∀ b o,h.get? b=DJ o->h'.get? b=DJ o):bV J J h h' own:=
 ⟨EB,fun _ x=> .inl x,fun a o e _ _=>k a o e,fun a its n e=>k a _ e,fun a e=>by
  cases q:h.get? a with
  | none=>exact absurd q e
  | some o=>refine yF (k a o q) ?_;simp⟩
theorem dP{J J':Jm}{k:Nat}{a:Addr}(h:J <+: J')(e:J[k]? =DJ a):J'[k]? =DJ a:=by
 refine aq h fun t z2=>?_;clear h;subst z2;rewrite[Eh]
 ·exact e
 ·exact (DS.mp e).1
theorem cb.ext{J J':Jm}{h h':Heap}(p:J <+: J')(t:∀ a its n,h.get? a=DJ (ba its n)->h'.get? a=DJ (ba its n)):∀ {v:AV} {val:DW},cb J h v val->cb J' h' v val:=
 fun {v} _ r=>AV.rec (motive_1:=fun v=>∀ val,cb J h v val->cb J' h' v val) (motive_2:=fun vs=>∀ vals,cE J h vs vals->cE J' h' vs vals)
  (fun _ e=>e) (fun _ _ e=>e) (fun _ _ e=>e) (fun _ _ e=>e)
  (fun _ ih _ r=>dH r fun a its n e ho r z=>⟨a,its,n,e,t a its n ho,ih _ r,z⟩)
  (fun _ _ r=>af r fun a e q=>⟨a,dP p e,q⟩)
  (fun _ e=>e) (fun _ _ i1 i2 _ r=>aW r fun y ys e r rs=>⟨y,ys,e,i1 _ r,i2 _ rs⟩) v _ r
theorem cE.ext(p:J <+: J')(t:∀ a its n,h.get? a=DJ (ba its n)->h'.get? a=DJ (ba its n)):∀ {vs:List AV} {vals:List DW},cE J h vs vals->cE J' h' vs vals:=by
 intro vs;induction vs with
 | nil=>intro vals e;exact e
 | cons x xs ih=>intro vals r;exact aW r fun y ys e r rs=>⟨y,ys,e,cb.ext p t r,ih rs⟩
theorem cb.mono{J J':Jm}{h h':Heap}{own}(x:bV J J' h h' own):∀ {v:AV} {val:DW},cb J h v val->cb J' h' v val:=fun r=>cb.ext x.pre x.tup r
theorem cE.mono{own}(x:bV J J' h h' own):∀ {vs:List AV} {vals:List DW},cE J h vs vals->cE J' h' vs vals:=fun r=>cE.ext x.pre x.tup r
theorem cE.length:∀ {vs:List AV} {vals:List DW},cE J h vs vals->vals.length=vs.length:=by
 intro vs;induction vs with
 | nil=>intro vals e;rewrite[e];rfl
 | cons x xs ih=>intro vals d;refine aW d fun y ys e _ rs=> ?_;refine yF e ?_;exact congrArg Nat.succ (ih rs)
theorem cE.append:∀ {vs ws:List AV} {vals wals:List DW},cE J h vs vals->cE J h ws wals->cE J h (vs++ws) (vals++wals):=by
 intro vs;induction vs with
 | nil=>intro ws vals wals e r;rewrite[e];exact r
 | cons x xs ih=>
  intro ws vals wals d r;refine aW d fun y ys e q rs=>?_;refine yF e ?_;exact⟨y,_,rfl,q,ih rs r⟩
theorem cE.get:∀ {vs:List AV} {vals:List DW} {i:Nat} {v:AV},cE J h vs vals->vs[i]? =DJ v->∃ val,vals[i]? =DJ val/\cb J h v val:=by
 intro vs;induction vs with
 | nil=>intro vals i v _ e;exact nO e
 | cons x xs ih=>
  intro vals i v d r;refine aW d fun y ys e q rs=>?_;subst e;cases i with
  | zero=>simp only[EL]at r;refine jA r ?_;exact⟨y,rfl,q⟩
  | succ i=>simp only[F0]at r ⊢;exact ih rs r
theorem cE.set(r:cb J h x y):∀ {vs:List AV} {vals:List DW} (i:Nat),cE J h vs vals->cE J h (vs.set i x) (vals.set i y):=by
 intro vs;induction vs with
 | nil=>intro vals i e;rewrite[e];exact rfl
 | cons v vs ih=>
  intro vals i d;refine aW d fun y' ys e q rs=>?_;subst e;cases i with
  | zero=>exact ⟨y,ys,rfl,r,rs⟩
  | succ i=>exact ⟨y',_,rfl,q,ih i rs⟩
theorem cE.take:∀ {vs:List AV} {vals:List DW} (i:Nat),cE J h vs vals->cE J h (vs.take i) (vals.take i):=by
 intro vs;induction vs with
 | nil=>intro vals i e;rewrite[e,List.take_nil,List.take_nil];exact rfl
 | cons v vs ih=>
  intro vals i d;refine aW d fun y' ys e q rs=>?_;subst e;cases i with
  | zero=>exact rfl
  | succ i=>exact ⟨y',_,rfl,q,ih i rs⟩
noncomputable def keyHash(w:World):AV->Int
 | .int i=>Lk i
 | .str s=>I9 w ⟨s.toArray⟩
 | .tup vs=>reduceHash (Fk (vs.map (gY w)))
 | _=>0
inductive dX(w:World)(J:Jm)(h:Heap):List (AV × AV)->List DictEntry->Prop where
 | nil:dX w J h [] []
 | cons {k v:AV} {hs:Int} {key val:DW} {es:List (AV × AV)} {ds:List DictEntry} (hk:bv k=true) (rk:cb J h k key) (rv:cb J h v val)
   (hh:hs=keyHash w k) (r:dX w J h es ds):dX w J h ((k,v)::es) (⟨hs,key,val⟩::ds)
noncomputable def jG(w:World)(C:Addr)(J:Jm)(h:Heap)(a:Addr):AO->Prop
 | .list vs=>∃ its n,h.get? a=DJ (listOf its n)/\cE J h vs its.toList/\its.size<=2097152
 | .dict es=>∃ ds n,h.get? a=DJ (dictOf ds n)/\dX w J h es ds/\(es.map (·.1)).Nodup/\n=es.length
 | .inst d=>∃ dx,J[d]? =DJ dx/\h.get? a=DJ (instObj C dx)
structure CM(w:World)(C:Addr)(J:Jm)(H:Hp)(h:Heap):Prop where
 len:J.length=H.length
 nodup:J.Nodup
 obj:∀ (k:Nat) (o:AO) (a:Addr),H[k]? =DJ o->J[k]? =DJ a->jG w C J h a o
theorem dX.mono{own}(x:bV J J' h h' own):∀ {es ds},dX w J h es ds->dX w J' h' es ds:=by
 intro es ds d;induction d with
 | nil=>exact .nil
 | cons hk rk rv hh r ih=>exact .cons hk (rk.mono x) (rv.mono x) hh ih
theorem jG.mono{w:World}{C:Addr}{J J':Jm}{h h':Heap}{own}(x:bV J J' h h' own){a:Addr}{o:AO}(e:∀ ob,h.get? a=DJ ob->h'.get? a=DJ ob)(r:jG w C J h a o):jG w C J' h' a o:=by
 cases o with
 | list vs=>(refine aW r fun its n q rl z=>?_;clear r);exact⟨its,n,e _ q,rl.mono x,z⟩
 | dict es=>(refine aW r fun ds n q rl nd=>?_;clear r);exact⟨ds,n,e _ q,rl.mono x,nd⟩
 | inst d=>(refine af r fun dx q rl=>?_;clear r);exact⟨dx,dP x.pre q,e _ rl⟩
theorem jG.alive(r:jG w C J h a o):h.get? a≠none:=by
 cases o with
 | list vs=>(refine fL r fun its n q uu=>?_;clear r);refine yF q ?_;simp
 | dict es=>(refine fL r fun ds n q uu=>?_;clear r);refine yF q ?_;simp
 | inst d=>(refine af r fun dx q rl=>?_;clear r);refine yF rl ?_;simp
theorem jG.notTup(r:jG w C J h a o):∀ its n,h.get? a≠DJ (ba its n):=by
 intro its n e;cases o with
 | list vs=>(refine fL r fun its' n' q uu=>?_;clear r);rw[q]at e;injection e with e;injection e with e1;injection e1 with e1;exact absurd e1 (by decide)
 | dict es=>(refine fL r fun ds n' q uu=>?_;clear r);rw[q]at e;injection e with e;injection e with e1;injection e1 with e1;exact absurd e1 (by decide)
 | inst d=>(refine af r fun dx q rl=>?_;clear r);rw[rl]at e;injection e with e;injection e with e1;exact nomatch e1
structure Cx where
 prog:Program
 w:World
 C:Addr
 hb:Heap
 K:Frag
 p:Program
 loose:List Str
 mg:Str->Option DW
 mb:Str->Option DW
structure f7(cx:Cx):Prop where
 X:cx.K.In cx.hb
 T:TopRead cx.p cx.loose cx.mg cx.mb cx.hb
abbrev Cx.M(cx:Cx):Model:=model cx.prog cx.w
structure cf(cx:Cx)(J:Jm)(H:Hp)(h:Heap):Prop where
 rep:CM cx.w cx.C J H h
 base:cx.hb.StaysIn h
 above:∀ a∈J,cx.hb.get? a=none
 stat:cx.hb.get? cStatics≠none
 sys:∀ a∈J,a≠sysModules
theorem cf.aliveJ(I:cf cx J H h)(ha:a∈J):h.get? a≠none:=by
 refine aq (GU ha) fun k z16=>?_;refine aq z16 fun hk z72=>?_;clear z16;subst z72;have hk':=hk;rw[I.rep.len]at hk';exact (I.rep.obj k _ _ (Em hk') (Em hk)).alive
theorem cf.notTup(I:cf cx J H h)(ha:a∈J):∀ its n,h.get? a≠DJ (ba its n):=by
 refine aq (GU ha) fun k z16=>?_;refine aq z16 fun hk z72=>?_;clear z16;subst z72;have hk':=hk;rw[I.rep.len]at hk';exact (I.rep.obj k _ _ (Em hk') (Em hk)).notTup
theorem dy{J:Jm}{k:Nat}{a:Addr}(e:J[k]? =DJ a):a∈J:=D8 e
theorem cf.keeps(I:cf cx J H h)(k:∀ b o,h.get? b=DJ o->h'.get? b=DJ o):cf cx J H h':=by
 have S:bV J J h h' bF:=bV.of_keeps k;exact⟨⟨I.rep.len,I.rep.nodup,fun i o a e q=>(I.rep.obj i o a e q).mono S (k a)⟩,fun b o e=>k b o (I.base b o e),I.above,I.stat,I.sys⟩
theorem cf.stp(I:cf cx J H h)(ha:a∈J)(hs:FE a h h')(hal:h'.get? a≠none):bV J J h h' bF:=
 ⟨EB,fun _ x=> .inl x,fun b o e hJ _=>(hs.2 b (fun q=>hJ (q ▸ ha))).trans e,fun b its n e=>(hs.2 b (fun q=>I.notTup ha its n (q ▸ e))).trans e,
  fun b e=>by
   by_cases q:b=a
   ·refine yF q ?_;exact hal
   ·rewrite[hs.2 b q];exact e⟩
theorem cf.set{cx:Cx}{J:Jm}{H:Hp}{h h':Heap}{k:Nat}{a:Addr}{o':AO}(I:cf cx J H h)(hJ:J[k]? =DJ a)(hs:FE a h h')(r:jG cx.w cx.C J h' a o'):cf cx J (H.set k o') h':=by
 have S:=I.stp (dy hJ) hs r.alive;refine⟨⟨by refine yF Fw ?_;exact I.rep.len,I.rep.nodup,fun i o b e q=> ?_⟩,fun b o e=>(hs.2 b (fun z=> ?_)).trans (I.base b o e),I.above,I.stat,I.sys⟩
 ·by_cases hik:k=i
  ·subst hik;rw[hJ]at q;injection q with q;subst q;have hlt:k<H.length:=by
    have:=(DS.mp e).1;rwa [Fw]at this
   rw[Fu hlt]at e;injection e with e;subst e;exact r
  ·rw[F8 hik]at e;have hne:b≠a:=by
    intro z;subst z;have h1:=(DS.mp hJ);have h2:=(DS.mp q);exact hik ((Hj I.rep.nodup).mp (h1.2.trans h2.2.symm))
   exact (I.rep.obj i o b e q).mono S (fun ob z=>(hs.2 b hne).trans z)
 ·have:=I.above a (dy hJ);rw[<- z,e]at this;exact oN this
theorem cN(h:Heap):h.get? h.objs.size=none:=by
 cases e:h.get? h.objs.size with
 | none=>rfl
 | some o=>exact absurd (FF e) (Gc _)
theorem cf.size_ne(I:cf cx J H h):h.objs.size≠sysModules:=by
 intro e;cases q:cx.hb.get? cStatics with
 | none=>exact I.stat q
 | some o=>
  have h1:=FF (I.base _ _ q);rw[e]at h1;exact absurd h1 (by decide)
theorem cf.newStp(ha:h.get? a=none)(k:∀ b o,h.get? b=DJ o->h'.get? b=DJ o):bV J (J++[a]) h h' bF:=
 ⟨E9 _ _,fun b hb=>by
  rcases DZ.mp hb with q | q
  ·exact .inl q
  ·refine yF (DT.mp q) ?_;exact .inr ha,fun b o e _ _=>k b o e,fun b its n e=>k b _ e,fun b e=>by
  cases q:h.get? b with
  | none=>exact absurd q e
  | some o=>refine yF (k b o q) ?_;simp⟩
theorem cf.push(I:cf cx J H h)(ha:h.get? a=none)(hsy:a≠sysModules)(k:∀ b o,h.get? b=DJ o->h'.get? b=DJ o)
  (r:jG cx.w cx.C (J++[a]) h' a o):cf cx (J++[a]) (H++[o]) h':=by
 have S:bV J (J++[a]) h h' bF:=cf.newStp ha k;refine⟨⟨by simp[I.rep.len],?_,fun i o' b e q=> ?_⟩,fun b o e=>k b o (I.base b o e),fun b hb=> ?_,I.stat,fun b hb=>(DZ.mp hb).elim (I.sys b) (fun q=>by refine yF (DT.mp q) ?_;exact hsy)⟩
 ·refine Fa.mpr ⟨I.rep.nodup,by simp,?_⟩;intro x hx y hy;refine yF (DT.mp hy) ?_;rintro rfl
  exact I.aliveJ hx ha
 ·by_cases hi:i<H.length
  ·rw[Eh hi]at e;have hi':i<J.length:=by refine yF I.rep.len ?_;exact hi
   rw[Eh hi']at q;exact (I.rep.obj i o' b e q).mono S (fun ob z=>k b ob z)
  ·have hlt:=(DS.mp e).1;rw[DU,Ex]at hlt;have hii:i=H.length:=Eo (bu (nat_lit 11029854074912) tt hlt) (bu (nat_lit 336603168) tt (E6 hi));subst hii;rw[D9 (DV _),EH]at e;rw[<- I.rep.len,D9 (DV _),EH]at q;simp only[EL,D7]at e q;subst e q;exact r
 ·rcases DZ.mp hb with q | q
  ·exact I.above b q
  ·refine yF (DT.mp q) ?_;cases z:cx.hb.get? a with
   | none=>rfl
   | some o'=>rw[I.base a o' z]at ha;cases ha
theorem gx{J:Jm}{H:Hp}{a:Addr}(h:J.length=H.length):(J++[a])[H.length]? =DJ a:=by
 refine yB h ?_;refine yF (D9 (DV _)) ?_;refine yF (EH _) ?_;rfl
noncomputable def ak(cx:Cx)(J:Jm)(s:DQ)(v:AV)(H':Hp)(val:DW)(s':DQ):Prop:=
 (∃ h tk,s'={ s with heap:=h,toks:=tk })/\∃ J',bV J J' s.heap s'.heap bF/\cf cx J' H' s'.heap/\cb J' s'.heap v val
theorem ae{s s' s'':DQ}(x:∃ h tk,s'={ s with heap:=h,toks:=tk })(y:∃ h tk,s''={ s' with heap:=h,toks:=tk }):∃ h tk,s''={ s with heap:=h,toks:=tk }:=by
 refine eR x fun h tk z3=>?_;clear x;subst z3;refine eR y fun h' tk' z3=>?_;clear y;subst z3;exact⟨h',tk',rfl⟩
theorem ak.trans{cx:Cx}{J J':Jm}{s s':DQ}{v:AV}{H':Hp}{val:DW}{s'':DQ}(e:∃ h tk,s'={ s with heap:=h,toks:=tk })(x:bV J J' s.heap s'.heap bF)(p:ak cx J' s' v H' val s''):ak cx J s v H' val s'':=by
 refine am p fun e' z16=>?_;clear p;refine aM z16 fun J'' y I r=>?_;clear z16;exact⟨ae e e',J'',x.trans y,I,r⟩
theorem ak.pure(I:cf cx J H s.heap)(r:cb J s.heap v val):ak cx J s v H val { s with toks:=tk }:=
 ⟨⟨s.heap,tk,rfl⟩,J,bV.refl _ _ _,I,r⟩
theorem ak.keeps(I:cf cx J H s.heap)(k:∀ b o,s.heap.get? b=DJ o->h.get? b=DJ o)(r:cb J s.heap v val):ak cx J s v H val { s with heap:=h,toks:=tk }:=
 ⟨⟨h,tk,rfl⟩,J,bV.of_keeps k,I.keeps k,r.mono (bV.of_keeps (own:=bF) k)⟩
theorem ak.set{cx:Cx}{J:Jm}{s:DQ}{v:AV}{H:Hp}{val:DW}{h:Heap}{tk:Nat}{k:Nat}{a:Addr}{o':AO}(I:cf cx J H s.heap)(hJ:J[k]? =DJ a)(hs:FE a s.heap h)
  (r:bV J J s.heap h bF->jG cx.w cx.C J h a o') (hal:h.get? a≠none) (rv:cb J s.heap v val):ak cx J s v (H.set k o') val { s with heap:=h,toks:=tk }:=by
 have S:=I.stp (dy hJ) hs hal;exact⟨⟨h,tk,rfl⟩,J,S,I.set hJ hs (r S),rv.mono S⟩
theorem ak.push{cx:Cx}{J:Jm}{s:DQ}{H:Hp}{h:Heap}{tk:Nat}{o:AO}(I:cf cx J H s.heap)(k:∀ b o,s.heap.get? b=DJ o->h.get? b=DJ o)
  (r:bV J (J++[s.heap.objs.size]) s.heap h bF->jG cx.w cx.C (J++[s.heap.objs.size]) h s.heap.objs.size o):ak cx J s (.ref H.length) (H++[o]) (.ref s.heap.objs.size) { s with heap:=h,toks:=tk }:=by
 have S:bV J (J++[s.heap.objs.size]) s.heap h bF:=cf.newStp (cN _) k;exact⟨⟨h,tk,rfl⟩,J++[s.heap.objs.size],S,I.push (cN _) I.size_ne k (r S),s.heap.objs.size,gx I.rep.len,rfl⟩
end Mine.Internal
end
section
open PySem PySem.W PyProof.Rows
namespace Mine.Internal
noncomputable def kR:Op->Operator
 | .add=> .Add | .sub=> .Sub | .mul=> .Mult | .fdiv=> .FloorDiv | .mod=> .Mod | .pow=> .Pow | .shl=> .LShift | .shr=> .RShift | .band=> .BitAnd | .bor=> .BitOr | .bxor _=> .BitXor
theorem eO(x:Int):GH x= -x - 1:=by unfold GH;rfl
theorem qf{a b:Int}(ha:0<=a)(hb:0<=b):IH a b=((a.toNat &&& b.toNat:Nat):Int):=by
 unfold IH;refine yF (decide_eq_true ha) ?_;refine yF (decide_eq_true hb) ?_;rfl
theorem oH{a b:Int}(ha:0<=a)(hb:0<=b):Lm a b=((a.toNat ||| b.toNat:Nat):Int):=by
 unfold Lm IH;refine yF (decide_eq_false (by refine yF (eO _) ?_;lia)) ?_;refine yF (decide_eq_false (by refine yF (eO _) ?_;lia)) ?_;dsimp only;have e1:GH (GH a)=a:=by (refine DK (eO _) ?_;refine yF (eO _) ?_);lia
 have e2:GH (GH b)=b:=by (refine DK (eO _) ?_;refine yF (eO _) ?_);lia
 refine yF e1 ?_;refine yF e2 ?_;refine DK (eO _) ?_;refine yF (eO _) ?_;lia
theorem tc(n:Nat):∀ a b:Nat,a<2^n->(a ^^^ b)+2 * (a &&& b)=a+b:=by
 induction n with
 | zero=>
  intro a b h;have:a=0:=KS.mp h;subst this;simp
 | succ n ih=>
  intro a b h;have h1:=ih (a/2) (b/2) (uN h);have e1:(a ^^^ b) / 2=a/2 ^^^ b/2:=Nat.xor_div_two;have e2:(a &&& b) / 2=a/2 &&& b/2:=Ku;have m1:(a ^^^ b) % 2=(a % 2) ^^^ (b % 2):=Nat.xor_mod_two_pow (n:=1);have m2:(a &&& b) % 2=(a % 2) &&& (b % 2):=IU (n:=1);rw[<- e1,<- e2]at h1;clear e1 e2;rcases F1 a with x | x<;>rcases F1 b with y | y<;>rw[x,y]at m1 m2
  ·exact tM h1 (by rewrite[x,y,m1,m2];rfl)
  ·exact tM h1 (by rewrite[x,y,m1,m2];rfl)
  ·replace m1:_=1:=m1;replace m2:_=0:=m2;lia
  ·exact tM h1 (by rewrite[x,y,m1,m2];rfl)
theorem uv(n:Nat):∀ a b:Nat,a<2^n->(a ||| b)+(a &&& b)=a+b:=by
 induction n with
 | zero=>
  intro a b h;have:a=0:=KS.mp h;subst this;simp
 | succ n ih=>
  intro a b h;have h1:=ih (a/2) (b/2) (uN h);have e1:(a ||| b) / 2=a/2 ||| b/2:=Nat.or_div_two;have e2:(a &&& b) / 2=a/2 &&& b/2:=Ku;have m1:(a ||| b) % 2=(a % 2) ||| (b % 2):=Nat.or_mod_two_pow (n:=1);have m2:(a &&& b) % 2=(a % 2) &&& (b % 2):=IU (n:=1);rw[<- e1,<- e2]at h1;clear e1 e2;rcases F1 a with x | x<;>rcases F1 b with y | y<;>rw[x,y]at m1 m2
  ·replace m1:_=0:=m1;replace m2:_=0:=m2;exact nat_or_add_and a b
  ·replace m1:_=1:=m1;replace m2:_=0:=m2;exact nat_or_add_and a b
  ·replace m1:_=1:=m1;replace m2:_=0:=m2;exact nat_or_add_and a b
  ·replace m1:_=1:=m1;replace m2:_=1:=m2;exact nat_or_add_and a b
theorem wx{a b:Int}(ha:0<=a)(hb:0<=b):KT a b=((a.toNat ^^^ b.toNat:Nat):Int):=by
 unfold KT;refine yF (oH ha hb) ?_;refine yF (qf ha hb) ?_;have h1:=tc a.toNat a.toNat b.toNat IV;have h2:=uv a.toNat a.toNat b.toNat IV;lia
theorem pz{a:Int}(h0:0<=a)(h:a<fw):Builtin.Int.intBits a<=64:=by
 unfold Builtin.Int.intBits;split
 ·decide
 ·rename_i q;have:a.natAbs≠0:=by intro z;exact q (by simp;lia)
  have:a.natAbs.log2<32:=(Kh this).mpr (by unfold fw at h;lia);exact dm (nat_lit 12128695772971026880) tt this
theorem yj{a b:Int}(h:0<b)(hb:b<fw):Hm a b=false:=by
 unfold Hm;have h0:b.natAbs≠0:=by omega
 have:b.natAbs.log2<32:=(Kh h0).mpr (by unfold fw at hb;lia);have:b.natAbs.log2 / 30+1<=2:=by lia
 simp only[Bool.and_eq_false_iff,decide_eq_false_iff_not];left
 split<;>(first | decide | exact Gh (dm (nat_lit 411530080485787358741952) tt this))
section
variable {cx:Cx} {A:Around} {E:DW->DQ->Prop} {s:DQ} {J:Jm} {H:Hp}
theorem zu{a b r:Int}{Q:DW->DQ->Prop}(h:bA o a b=DJ r)(hQ:∀ t' tk,Q (.int r t') { s with toks:=tk }):
  D2 cx.M A (binaryOp (kR o) (.int a t) (.int b u)) Q E s:=by
 cases o with
 | add=>(revert hQ;refine jA h ?_;intro hQ);simp only[kR];with_reducible exact PyProof.Rows.add_int (hQ _ _)
 | sub=>(revert hQ;refine jA h ?_;intro hQ);simp only[kR];with_reducible exact sub_int' (hQ _ _)
 | mul=>
  refine ifs h ?_;clear h;intro q h;revert hQ;refine jA h ?_;intro hQ;simp only[kR];with_reducible exact mul_int (hQ _ _) (IntMulOk.of_left (pz q.2.2.1 q.2.2.2))
 | fdiv=>
  refine ifs h ?_;clear h;intro q h;revert hQ;refine jA h ?_;intro hQ;simp only[kR];with_reducible refine floordiv_int (by omega) ?_ (.inl (yj q.1 q.2))
  refine yF (Hx _ (JK q.1)) ?_;exact hQ _ _
 | mod=>
  refine ifs h ?_;clear h;intro q h;revert hQ;refine jA h ?_;intro hQ;simp only[kR];with_reducible refine mod_int' (Hs (Int.ne_of_lt q)) ?_
  refine yF (Int.fmod_eq_emod_of_nonneg _ (JK q)) ?_;exact hQ _ _
 | pow=>
  refine ifs h ?_;clear h;intro q h;refine bY q fun z1 q1 q2=>?_;clear q;subst z1;revert hQ;refine jA h ?_;intro hQ;simp only[kR];with_reducible exact pow_int_small q1 (by unfold qC at q2;lia) (by decide) (hQ _ _)
 | shl=>
  refine ifs h ?_;clear h;intro q h;revert hQ;refine jA h ?_;intro hQ;simp only[kR];with_reducible exact lshift_int_small q.1 (by have:=q.2.1;unfold nF at this;lia) (by have:=q.2.2;unfold fw at this;lia) (hQ _ _)
 | shr=>
  refine ifs h ?_;clear h;intro q h;revert hQ;refine jA h ?_;intro hQ;simp only[kR];with_reducible refine rshift_int q.1 ?_
  refine yF (Hx _ (JK (Int.pow_pos (by decide)))) ?_;exact hQ _ _
 | band=>
  refine ifs h ?_;clear h;intro q h;revert hQ;refine jA h ?_;intro hQ;simp only[kR];with_reducible refine and_int ?_;refine yF (qf q.1 q.2) ?_;exact hQ _ _
 | bor=>
  refine ifs h ?_;clear h;intro q h;revert hQ;refine jA h ?_;intro hQ;simp only[kR];with_reducible refine or_int ?_;refine yF (oH q.1 q.2) ?_;exact hQ _ _
 | bxor=>
  refine ifs h ?_;clear h;intro q h;revert hQ;refine jA h ?_;intro hQ;simp only[kR];with_reducible refine xor_int ?_;refine yF (wx q.1 q.2) ?_;exact hQ _ _
theorem yk{a b r:Int}{Q:DW->DQ->Prop}(h:bA o a b=DJ r)(ho:o= .add\/o= .sub\/o= .bor)(hQ:∀ t' tk,Q (.int r t') { s with toks:=tk }):
  D2 cx.M A (inplaceOp (kR o) (.int a t) (.int b u)) Q E s:=by
 rcases ho with rfl | rfl | rfl<;>simp only[kR]
 ·revert hQ;refine jA h ?_;intro hQ;with_reducible exact PyProof.Rows.iadd_int (hQ _ _)
 ·revert hQ;refine jA h ?_;intro hQ;with_reducible exact isub_int (hQ _ _)
 ·refine ifs h ?_;clear h;intro q h;revert hQ;refine jA h ?_;intro hQ;with_reducible refine ior_int ?_;refine yF (oH q.1 q.2) ?_;exact hQ _ _
theorem wy(x y:Nm):((⟨x.toArray⟩:DL)++(⟨y.toArray⟩:DL))=⟨(x++y).toArray⟩:=by
 show J0 _ _=_;unfold J0;simp
theorem AM{o:Op}{a b v:AV}{va vb:DW}{H':Hp}(I:cf cx J H s.heap)(ra:cb J s.heap a va)(rb:cb J s.heap b vb)(h:qE H o a b=DJ (v,H')):
  D2 cx.M A (binaryOp (kR o) va vb) (ak cx J s v H') E s:=by
 cases a with
 | int x=>
  refine cU h ?_;clear h;rintro y rfl h;refine aq ra fun t z2=>?_;clear ra;subst z2;refine aq rb fun u z2=>?_;clear rb;subst z2;refine lY h ?_;clear h;intro r hr e;cases e;with_reducible refine zu hr ?_
  exact fun t' tk=>ak.pure I ⟨t',rfl⟩
 | str x=>
  refine vG h ?_;clear h;rintro y rfl h;refine ifs h ?_;clear h;intro z1 h;refine am z1 fun z40 q=>?_;clear z1;subst z40;refine am ra fun oka z16=>?_;clear ra;refine aq z16 fun t z72=>?_;clear z16;subst z72;refine am rb fun okb z16=>?_;clear rb;refine aq z16 fun u z72=>?_;clear z16;subst z72
  ·
    cases h;simp only[kR];with_reducible refine add_str (fun t' tk=> ?_) ?_
    ·refine yF (wy _ _) ?_;exact ak.pure I ⟨fun c hc=>(DZ.mp hc).elim (oka c) (okb c),t',rfl⟩
    ·have:bo=1048576:=rfl;simp only[OZ,FV];have:sizeLine=16777216:=by decide
     exact kt (nat_lit 14036010067192882751687082677996353822934466) tt q ‹_› this
 | ref x=>
  refine gw h ?_;clear h;rintro y rfl h;refine dT h ?_;clear h;intro xs hx h;refine dT h ?_;clear h;intro ys hy h;refine ifs h ?_;clear h;intro z1 h;refine am z1 fun z40 q=>?_;clear z1;subst z40
  ·
    cases h;refine af ra fun ax hax z3=>?_;clear ra;subst z3;refine af rb fun ay hay z3=>?_;clear rb;subst z3;refine aW (I.rep.obj _ _ _ hx hax) fun ix nx ex rx uu=>?_;refine aW (I.rep.obj _ _ _ hy hay) fun iy ny ey ry uu=>?_;have lx:=rx.length;have ly:=ry.length;simp only[Ej]at lx ly;have z1:bo=1048576:=rfl;have z2:sizeLine=16777216:=by decide
    simp only[kR];have Tx:s.TypeIs (.ref ax) "list" :=⟨_,ex,rfl⟩;have Ty:s.TypeIs (.ref ay) "list" :=⟨_,ey,rfl⟩;have W:=list_addW ax ay ix iy nx ny none none #[] #[] (bS (nat_lit 14717823266716275009386871614417406078496325256642) tt ‹_› ‹_› z2);refine @concat_meets _ _ _ _ _ _ _ _ _ _ _ _ Tx Ty Kv seq_list_add PySem.F.slot_list_add PySem.F.entry_list_add (PySem.F.args_list_add_2 _ _) W ?_;refine⟨ex,ey,?_⟩;show ak cx J s _ _ (.ref s.heap.objs.size) { s with heap:=s.heap.push _ };exact ak.push (tk:=s.toks) I (fun b o e=>D3 _ e) fun S=>
     ⟨_,0,Er _ rfl,by refine yF Hr ?_;exact (rx.mono S).append (ry.mono S),by refine yF HI ?_;exact wK (nat_lit 15009120900052847046882962949231624227171479648) tt ly q z1 lx⟩
 | _=>cases h
end
end Mine.Internal
end
section
open PySem PySem.W PyProof.Rows
namespace Mine.Internal
mutual
noncomputable def nj:PyData->D
 | .none=> .none
 | .bool b=> .int (if b then 1 else 0)
 | .int i=> .int i
 | .str x=> .str x.cps.toList
 | .tuple ds=> .tup (mA ds)
 | .list ds=> .list (mA ds)
 | .dict _=> .none
noncomputable def mA:List PyData->List D
 | []=>[]
 | d::ds=>nj d::mA ds
end
theorem zv(x y:DL):(x == y)=decide (x.cps.toList=y.cps.toList):=by
 by_cases h:x=y
 ·subst h;simp
 ·have h2:x.cps.toList≠y.cps.toList:=by
   intro e;apply h;cases x;cases y;simp only[PySem.Str.mk.injEq];exact Array.toList_inj.mp e
  refine yF (decide_eq_false h2) ?_;simpa using h
theorem AN(i j:Int):(i == j)=decide (i=j):=by by_cases h:i=j<;>simp[h]
theorem CN(i j:Bool):(i == j)=decide ((if i then 1 else 0:Int)=(if j then 1 else 0)):=by cases i<;>cases j<;>rfl
mutual
theorem kS:∀ (a b:PyData),a.canLay0=true->b.canLay0=true->Fy a b=decide (nj a=nj b)
 | .none,b,_,h=>by cases b<;>simp_all [Fy,nj,Fh]
 | .bool x,b,_,h=>by
  cases b with
  | bool y=>simp only[Fy,nj,CN,D.int.injEq]
  | int y=>simp only[Fy,nj,AN,D.int.injEq]
  | _=>simp_all [Fy,nj,Fh]
 | .int x,b,_,h=>by
  cases b with
  | bool y=>simp only[Fy,nj,AN,D.int.injEq]
  | int y=>simp only[Fy,nj,AN,D.int.injEq]
  | _=>simp_all [Fy,nj,Fh]
 | .str x,b,_,h=>by
  cases b with
  | str y=>simp only[Fy,nj,zv,D.str.injEq]
  | _=>simp_all [Fy,nj,Fh]
 | .list xs,b,h',h=>by
  cases b with
  | list ys=>
   simp only[Fh]at h h';simp only[Fy,nj,D.list.injEq];exact ru xs ys h' h
  | _=>simp_all [Fy,nj,Fh]
 | .tuple xs,b,h',h=>by
  cases b with
  | tuple ys=>
   simp only[Fh]at h h';simp only[Fy,nj,D.tup.injEq];exact ru xs ys h' h
  | _=>simp_all [Fy,nj,Fh]
 | .dict _,b,h',_=>by simp[Fh]at h'
theorem ru:∀ (a b:List PyData),FW a=true->FW b=true->HR a b=decide (mA a=mA b)
 | [],b,_,h=>by cases b<;>simp[HR,mA]
 | x::xs,b,h',h=>by
  cases b with
  | nil=>simp[HR,mA]
  | cons y ys=>
   simp only[FW,Eb]at h h';simp only[HR,mA,FX,kS x y h'.1 h.1,ru xs ys h'.2 h.2];refine yF (Bool.decide_and _ _) ?_;rfl
end
section
variable {cx:Cx} {J:Jm} {H:Hp} {h:Heap}
theorem oI{f:α->Option β}(e:(x::xs).mapM f=DJ r):∃ y ys,f x=DJ y/\xs.mapM f=DJ ys/\r=y::ys:=by
 rw[Fg]at e;simp only[ED,F7,Option.bind_eq_some_iff,D7]at e;refine af e fun y hy z16=>?_;clear e;refine af z16 fun ys hys z73=>?_;clear z16;subst z73;exact⟨y,ys,hy,hys,rfl⟩
theorem fF(ih:∀ {v:AV} {val:DW} {d:D},cb J h v val->res H n v=DJ d->∃ pd as,Reads h val pd as/\pd.canLay0=true/\pd.depth<=n/\nj pd=d):
  ∀ {vs:List AV} {vals:List DW} {ds:List D},cE J h vs vals->vs.mapM (res H n)=DJ ds->∃ pds as,ReadsAll h vals pds as/\FW pds=true/\Ik pds<=n/\mA pds=ds
 | [],_,_,e,q=>by
  subst e;simp at q;subst q;exact⟨[],[],.nil,rfl,by simp[Ik],rfl⟩
 | v::vs,_,_,⟨y,ys,e,r,rs⟩,q=>by
  subst e;refine aW (oI q) fun d ds' hd hds z5=>?_;subst z5;refine cp (ih r hd) fun pd as h1 h2 h3 h4=>?_;refine cp (fF ih rs hds) fun pds bs k1 k2 k3 k4=>?_;exact⟨pd::pds,_,.cons h1 k1,by simp[FW,h2,k2],by simp only[Ik];exact Nat.max_le_of_le_of_le h3 k3,h4 ▸ k4 ▸ rfl⟩
set_option tactic.hygienic true in
theorem b8(I:cf cx J H h):∀ (n:Nat) {v:AV} {val:DW} {d:D},cb J h v val->res H n v=DJ d->∃ pd as,Reads h val pd as/\pd.canLay0=true/\pd.depth<=n/\nj pd=d
 | 0,_,_,_,_,e=>nO e
 | n+1,v,val,d,r,e=>by
  cases v with
  | none=>refine jA e ?_;replace r:val=_:=r;subst r;exact⟨_,_,.none,rfl,by simp[Hc],rfl⟩
  | bool b=>refine jA e ?_;replace r:val=_:=r;subst r;exact⟨_,_,.bool b,rfl,by simp[Hc],rfl⟩
  | int i=>refine jA e ?_;refine aq r fun t z2=>?_;clear r;subst z2;exact⟨_,_,.int i t,rfl,by simp[Hc],rfl⟩
  | str x=>
   refine jA e ?_;refine am r fun ok z16=>?_;clear r;refine aq z16 fun t z72=>?_;clear z16;subst z72;refine⟨_,_,.str _ t,?_,by simp[Hc],rfl⟩;simp only[Fh,PyData.strOk,Array.all_eq_true'];intro c hc;simp at hc;simpa using ok c hc
  | tup vs=>
   simp only[CE,Eu]at e;refine af e ?_;clear e;intro ds e z3;subst z3;refine dH r fun a its k z4 ho rl uu=>?_;clear r;subst z4;refine cp (fF (b8 I n) rl e) fun pds as h1 h2 h3 h4=>?_;exact⟨_,_,reads_tuple_at ho rfl rfl h1,by simpa[Fh] using h2,by simp only[Hc];exact bu (nat_lit 369908740467468320) tt h3,congrArg _ h4⟩
  | ref k=>
   refine af r fun a ha z3=>?_;clear r;subst z3;simp only[CG]at e;split at e
   ·rename_i vs hk;simp only[Eu]at e;refine af e ?_;clear e;intro ds e z3;subst z3;refine aW (I.rep.obj _ _ _ hk ha) fun its n' ho rl uu=>?_;refine cp (fF (b8 I n) rl e) fun pds as h1 h2 h3 h4=>?_;exact⟨_,_,reads_list_at ho rfl rfl h1,by simpa[Fh] using h2,by simp only[Hc];exact bu (nat_lit 369908740467468320) tt h3,congrArg _ h4⟩
   ·exact nO e
end
section
variable {cx:Cx} {A:Around} {E:DW->DQ->Prop} {s:DQ} {J:Jm} {H:Hp}
set_option tactic.hygienic true in
theorem oJ{b:Bool}{Q:Bool->DQ->Prop}(I:cf cx J H s.heap)(r:cb J s.heap v val)(h:truthy H v=DJ b)(hQ:∀ tk,Q b { s with toks:=tk }):
  D2 cx.M A (Ht val) Q E s:=by
 cases v with
 | none=>simp only[Cw,D7]at h;subst h;replace r:val=_:=r;subst r;with_reducible refine truthy_none ?_;exact hQ s.toks
 | bool c=>simp only[cq,D7]at h;subst h;replace r:val=_:=r;subst r;with_reducible refine Hd ?_;exact hQ s.toks
 | int i=>
  simp only[Ah,D7]at h;subst h;refine aq r fun t z2=>?_;clear r;subst z2;with_reducible refine PyProof.Rows.truthy_int ?_
  have:(i != 0)=decide (i≠0):=by by_cases q:i=0<;>simp[q]
  refine yF this ?_;exact hQ s.toks
 | str x=>exact nO h
 | tup vs=>exact nO h
 | ref k=>
  refine af r fun a ha z3=>?_;clear r;subst z3;simp only[Aj]at h;split at h
  ·rename_i vs hk;simp only[D7]at h;subst h;refine aW (I.rep.obj _ _ _ hk ha) fun its n' ho rl hz=>?_;have hl:=rl.length;simp only[Ej]at hl;have L:s.heap.IsList a its:=⟨_,ho,rfl,_,rfl⟩;with_reducible refine wpAny_truthy_list L (by lia) ?_
   have:its.isEmpty=vs.isEmpty:=by
    rewrite[Bool.eq_iff_iff];simp only[Array.isEmpty_iff_size_eq_zero,List.isEmpty_iff_length_eq_zero];exact Eq.to_iff (congrFun (congrArg Eq hl) 0)
   refine yF this ?_;exact hQ _
  ·exact nO h
theorem CQ{a b:AV}{va vb:DW}{r:Bool}{Q:DW->DQ->Prop}(hu:A.units+64<cLine)(I:cf cx J H s.heap)(ra:cb J s.heap a va)(rb:cb J s.heap b vb)(h:rZ H a b=DJ r)(hQ:Q (.bool r) s):
  D2 cx.M A (compareOp .Eq va vb) Q E s:=by
 refine ka h ?_;intro x hx h;refine lY h ?_;clear h;rintro y hy rfl
 ·
  refine cp (b8 I _ ra hx) fun pa as a1 a2 a3 a4=>?_;refine cp (b8 I _ rb hy) fun pb bs b1 b2 b3 b4=>?_;with_reducible refine SeqAt.compareEq_reads a1 b1 a2 b2 ?_ ?_
  ·have:dn=24:=rfl;exact wK (nat_lit 14370127208801241703828721316155840) tt (EV _ _) a3 this hu
  ·refine yF (kS _ _ a2 b2) ?_;refine yF a4 ?_;refine yF b4 ?_;exact hQ
theorem CR{a b:AV}{va vb:DW}{r:Bool}{Q:DW->DQ->Prop}(hu:A.units+64<cLine)(I:cf cx J H s.heap)(ra:cb J s.heap a va)(rb:cb J s.heap b vb)(h:rZ H a b=DJ r)(hQ:Q (.bool (!r)) s):
  D2 cx.M A (compareOp .NotEq va vb) Q E s:=by
 refine ka h ?_;intro x hx h;refine lY h ?_;clear h;rintro y hy rfl
 ·
  refine cp (b8 I _ ra hx) fun pa as a1 a2 a3 a4=>?_;refine cp (b8 I _ rb hy) fun pb bs b1 b2 b3 b4=>?_;with_reducible refine SeqAt.compareNe_reads a1 b1 a2 b2 ?_ ?_
  ·have:dn=24:=rfl;exact wK (nat_lit 14370127208801241703828721316155840) tt (EV _ _) a3 this hu
  ·refine yF (kS _ _ a2 b2) ?_;refine yF a4 ?_;refine yF b4 ?_;exact hQ
theorem uw:∀ (ps:List PyData) (d:PyData),FW ps=true->d.canLay0=true->(ps.any fun y=>Fy y d)=decide (nj d∈mA ps)
 | [],_,_,_=>by simp[mA]
 | p::ps,d,h,hd=>by
  simp only[FW,Eb]at h;dsimp only[Jc];refine yF (uw ps d h.2 hd) ?_;refine yF (kS p d h.1 hd) ?_;dsimp only[mA];by_cases q:nj p=nj d
  ·simp[q]
  ·have q':¬ nj d=nj p:=fun e=>q e.symm;simp[q,q']
theorem yl{x:AV}{vx:DW}{a:Addr}{k:Nat}{vs:List AV}{r:Bool}{Q:DW->DQ->Prop}(hu:A.units+64<cLine)(I:cf cx J H s.heap)(rx:cb J s.heap x vx)(ha:J[k]? =DJ a)(hk:H[k]? =DJ (.list vs))
  (h:kf H x vs=DJ r) (hQ:Q (.bool r) s):D2 cx.M A (compareOp .In vx (.ref a)) Q E s:=by
 refine ka h ?_;intro d hd h;refine lY h ?_;clear h;rintro ds hds rfl
 ·
  refine aW (I.rep.obj _ _ _ hk ha) fun its n' ho rl uu=>?_;refine cp (b8 I _ rx hd) fun pd as a1 a2 a3 a4=>?_;refine cp (fF (b8 I _) rl hds) fun pds bs b1 b2 b3 b4=>?_;with_reducible refine SeqAt.in_list_reads (reads_list_at ho rfl rfl b1) a1 b2 a2 ?_ ?_
  ·have:dn=24:=rfl;exact wK (nat_lit 470880662204622614365634048780185129408) tt (EV _ _) b3 this hu
  ·refine yF (uw _ _ b2 a2) ?_;refine yF a4 ?_;refine yF b4 ?_;exact hQ
theorem te{x:AV}{vx:DW}{a:Addr}{k:Nat}{vs:List AV}{r:Bool}{Q:DW->DQ->Prop}(hu:A.units+64<cLine)(I:cf cx J H s.heap)(rx:cb J s.heap x vx)(ha:J[k]? =DJ a)(hk:H[k]? =DJ (.list vs))
  (h:kf H x vs=DJ r) (hQ:Q (.bool (!r)) s):D2 cx.M A (compareOp .NotIn vx (.ref a)) Q E s:=by
 refine ka h ?_;intro d hd h;refine lY h ?_;clear h;rintro ds hds rfl
 ·
  refine aW (I.rep.obj _ _ _ hk ha) fun its n' ho rl uu=>?_;refine cp (b8 I _ rx hd) fun pd as a1 a2 a3 a4=>?_;refine cp (fF (b8 I _) rl hds) fun pds bs b1 b2 b3 b4=>?_;with_reducible refine SeqAt.notIn_list_reads (reads_list_at ho rfl rfl b1) a1 b2 a2 ?_ ?_
  ·have:dn=24:=rfl;exact wK (nat_lit 470880662204622614365634048780185129408) tt (EV _ _) b3 this hu
  ·refine yF (uw _ _ b2 a2) ?_;refine yF a4 ?_;refine yF b4 ?_;exact hQ
theorem zw{x:AV}{vx:DW}{a:Addr}{k j:Nat}{vs:List AV}(hu:A.units+64<cLine)(I:cf cx J H s.heap)(rx:cb J s.heap x vx)(ha:J[k]? =DJ a)(hk:H[k]? =DJ (.list vs))
  (h:r6 H x vs=DJ j):D2 cx.M A (call (.builtin "list.index") [.ref a,vx]) (ak cx J s (.int j) H) E s:=by
 refine ka h ?_;intro d hd h;refine ka h ?_;intro ds hds h
 ·
  refine aW (I.rep.obj _ _ _ hk ha) fun its n' ho rl hz=>?_;refine cp (b8 I _ rx hd) fun pd as a1 a2 a3 a4=>?_;refine cp (fF (b8 I _) rl hds) fun pds bs b1 b2 b3 b4=>?_;have T:s.TypeIs (.ref a) "list" :=⟨_,ho,rfl⟩;have hmap:=SeqAt.readsAll_map _ _ _ b2 b1;have hds':ds=its.toList.map (fun v=>nj (SeqAt.readOf s.heap v)):=by
   refine yB b4 ?_;refine yB hmap ?_;clear hmap b1 b2 b3 b4 hds rl;generalize its.toList=l;induction l with
   | nil=>rfl
   | cons y ys ih=>simp only[Fq,mA,ih]
  refine af (Go.mp h) fun hj e1 e2=>?_;have hj':j<its.size:=by rw[hds']at hj;simpa using hj
  have hlen:pds.length=its.size:=by refine yB hmap ?_;simp
  have hcan:∀ m (hm:m<its.size),(SeqAt.readOf s.heap its[m]).canLay0=true:=by
   intro m hm;refine aW (SeqAt.readsAll_mem _ _ _ b2 b1 its[m] (by simp)) fun d' cs ry hcy uu=>?_;refine yF (SeqAt.readOf_eq hcy ry) ?_;exact hcy
  have W:=SeqAt.list_indexAt a its n' none #[] vx (fun y=>Fy (SeqAt.readOf s.heap y) pd) j hj' (by lia)
   (by
    refine yF (kS _ _ (hcan j hj') a2) ?_;refine yF a4 ?_;have:=e1;subst hds';simpa using this)
   (fun m hm hmj=>by
    refine yF (kS _ _ (hcan m hm) a2) ?_;refine yF a4 ?_;have:=e2 m hmj;subst hds';simpa using this)
  with_reducible refine Ib HW T PySem.F.entry_list_index (PySem.F.args_list_index_2 _ _) W ?_
  refine⟨ho,SeqAt.items_eqAt b1 a1 b2 a2 (by have:dn=24:=rfl;exact wK (nat_lit 470880662204622614365634048780185129408) tt (EV _ _) b3 this hu),?_⟩;show ak cx J s (.int j) H (.int (j:Int) s.toks) { s with toks:=s.toks+1 };exact ak.pure I ⟨_,rfl⟩
end
end Mine.Internal
end
section
open PySem PySem.W PyProof.Rows
namespace Mine.Internal
noncomputable def lK:AV->D
 | .int i=> .int i
 | .str s=> .str s
 | _=> .none
noncomputable def tf:AV->D
 | .int i=> .int i
 | .str s=> .str s
 | .tup vs=> .tup (vs.map lK)
 | _=> .none
theorem wz(ha:dY a=true)(hb:dY b=true)(e:lK a=lK b):a=b:=by
 cases a<;>cases b<;>simp_all [dY,lK]
theorem oK:∀ {a b:List AV},a.all dY=true->b.all dY=true->a.map lK=b.map lK->a=b
 | [],[],_,_,_=>rfl
 | [],_::_,_,_,e=>by simp at e
 | _::_,[],_,_,e=>by simp at e
 | x::xs,y::ys,ha,hb,e=>by
  simp only[FD,Eb]at ha hb;simp only[Fq,FX]at e;refine yF (wz ha.1 hb.1 e.1) ?_;refine yF (oK ha.2 hb.2 e.2) ?_;rfl
set_option tactic.hygienic true in
theorem th(ha:bv a=true)(hb:bv b=true)(e:tf a=tf b):a=b:=by
 cases a<;>cases b<;>simp_all [bv,tf]
 ·rename_i x y;exact oK (by simpa using ha) (by simpa using hb) e
theorem ym(h:dY a=true):res H (n+1) a=DJ (lK a):=by
 cases a<;>simp_all [dY,lK,res]
theorem qg:∀ {vs:List AV},vs.all dY=true->vs.mapM (res H (n+1))=DJ (vs.map lK)
 | [],_=>rfl
 | v::vs,h=>by
  simp only[FD,Eb]at h;refine DK Fg ?_;refine yF (ym h.1) ?_;refine yF (qg h.2) ?_;rfl
theorem nk(h:bv k=true):res H 24 k=DJ (tf k):=by
 cases k with
 | int i=>rfl
 | str s=>rfl
 | tup vs=>simp only[Cy]at h;show (vs.mapM (res H 23)).map D.tup=_;refine yF (qg h) ?_;rfl
 | _=>exact fT h
section
variable {cx:Cx} {A:Around} {E:DW->DQ->Prop} {s:DQ} {J:Jm} {H:Hp}
theorem kT{a b:AV}{va vb:DW}{Q:Bool->DQ->Prop}(hu:A.units+64<cLine)(I:cf cx J H s.heap)(ra:cb J s.heap a va)(rb:cb J s.heap b vb)(ha:bv a=true)(hb:bv b=true)
  (h:Q (decide (a=b)) s):D2 cx.M A (eqBool va vb) Q E s:=by
 refine cp (b8 I _ ra (nk ha)) fun pa as a1 a2 a3 a4=>?_;refine cp (b8 I _ rb (nk hb)) fun pb bs b1 b2 b3 b4=>?_;have W:=SeqAt.eqBoolOverData cx.prog cx.w A E s va vb pa pb as bs Q a1 b1 a2 b2;refine W (kt (nat_lit 438541479760803093343575232960) tt (EV _ _) a3 hu) ?_;refine yF (kS _ _ a2 b2) ?_;refine yF a4 ?_;refine yF b4 ?_;have:decide (tf a=tf b)=decide (a=b):=by
  by_cases q:a=b
  ·subst q;simp
  ·have:¬ tf a=tf b:=fun e=>q (th ha hb e);simp[q,this]
 refine yF this ?_;exact h
theorem cb.atom_byValue(r:cb J h a v)(ha:dY a=true):carriedByValue v=true:=by
 cases a<;>simp[dY]at ha
 ·refine aq r fun t z2=>?_;clear r;subst z2;rfl
 ·refine am r fun uu z16=>?_;clear r;refine aq z16 fun t z72=>?_;clear z16;subst z72;rfl
theorem cE.atoms_byValue:∀ {vs:List AV} {vals:List DW},cE J h vs vals->vs.all dY=true->∀ v∈vals,carriedByValue v=true:=by
 intro vs;induction vs with
 | nil=>intro vals e _ v hv;subst e;cases hv
 | cons x xs ih=>
  intro vals d ha v hv;refine aW d fun y ys e r rs=>?_;subst e;simp only[FD,Eb]at ha;rcases ER.mp hv with rfl | hv
  ·exact r.atom_byValue ha.1
  ·exact ih rs ha.2 v hv
theorem qh{Q:Bool->DQ->Prop}(r:cb J s.heap a v)(ha:bv a=true)(h:Q true s):D2 cx.M A (eqIsQuiet 8 v) Q E s:=by
 cases a with
 | int i=>(refine aq r fun t z2=>?_;clear r;subst z2);refine yF (HJ 8 rfl) ?_;exact DP h
 | str i=>(refine am r fun uu z16=>?_;clear r;refine aq z16 fun t z72=>?_;clear z16;subst z72);refine yF (HJ 8 rfl) ?_;exact DP h
 | tup vs=>
  refine dH r fun b its n z4 ho rl uu=>?_;clear r;subst z4;have hT:s.TypeIs (.ref b) "tuple" :=⟨_,ho,rfl⟩;have hall:∀ x∈its.toList,carriedByValue x=true:=rl.atoms_byValue (by simpa[bv] using ha);unfold eqIsQuiet;have L:typeLookup (.type "tuple") (DN "__eq__")=pure (DJ (.builtin "tuple.__eq__")):=PySem.F.slot_tuple_eq.lookup;with_reducible refine DM (Hn hT L ?_)
  show D2 _ _ (isInstance (.ref b) (.type "tuple") >>= _) _ _ s;with_reducible refine DM (wpAny_isInstance hT isSubtype_tuple_tuple ?_)
  simp only[ET,EJ,if_false];with_reducible refine DM (wpAny_seqItems ho rfl ?_)
  refine DM ?_;show D2 _ _ (forIn its _ _) _ _ s;refine yB Jn ?_;refine GK _ (fun rest r s'=>r.1=none/\s'=s/\∀ v∈rest,carriedByValue v=true) _ ?_ ?_ _ _ ⟨rfl,rfl,hall⟩
  ·intro v rest r s' z5;refine bY z5 fun hr z161 hall=>?_;clear z5;subst z161;refine yF (HJ _ (hall v Fi)) ?_;refine DM (DP ?_);simp only[ET,EJ,if_false];exact DP ⟨rfl,rfl,fun v hv=>hall v (EM _ hv)⟩
  ·intro r s' z3;refine bY z3 fun hr z101 uu=>?_;clear z3;subst z101;obtain⟨r1,r2⟩:=r;simp only at hr;subst hr;exact DP h
 | _=>exact fT ha
theorem mB{Q:Int->DQ->Prop}(r:cb J s.heap a v)(ha:dY a=true)(h:Q (gY cx.w a) { s with toks:=s.toks+1 }):D2 cx.M A (pyHash v) Q E s:=by
 cases a with
 | int i=>
  refine aq r fun t z2=>?_;clear r;subst z2;with_reducible refine wpAny_pyHash_int ?_
  exact h
 | str i=>
  refine am r fun uu z16=>?_;clear r;refine aq z16 fun t z72=>?_;clear z16;subst z72;with_reducible refine wpAny_pyHash_str ?_
  exact h
 | _=>exact fT ha
theorem ux{n:Nat}{Q:Int->DQ->Prop}(hu:A.units<cLine)(ho:s.heap.get? a=DJ (ba its n))(rl:cE J s.heap vs its.toList)(ha:vs.all dY=true)
  (h:∀ tk,Q (keyHash cx.w (.tup vs)) { s with toks:=tk }):D2 cx.M A (pyHash (.ref a)) Q E s:=by
 have hT:s.TypeIs (.ref a) "tuple" :=⟨_,ho,rfl⟩;unfold pyHash;first | unfold pyHashByItsType | skip
 first | with_reducible refine DM (wpAny_cRoomFor_or (.inr hu) ?_) | skip
 have L:typeLookup (.type "tuple") (DN "__hash__")=pure (DJ (.builtin "tuple.__hash__")):=G4.lookup;with_reducible refine DM (Hn hT L ?_)
 show D2 _ _ (if (DJ (Lq "tuple.__hash__") == DJ Ic)=true then _ else _) Q E s;refine yF (if_neg (by refine yF (J7 _) ?_;exact EY)) ?_;with_reducible refine DM (Hn hT L ?_)
 show D2 _ _ (callSpecialIfBoundUnlessNone? (.ref a) "__hash__" _ >>= _) Q E s;refine DM (wpAny_callSpecialIfBoundUnlessNone?_slot hT G4 (Gk G4 hT PySem.F.entry_tuple_hash ?_ (PySem.F.args_tuple_hash_1 _)));show D2 _ _ (KV (.ref a) >>= _) _ _ s;refine DM (wpAny_tupleItemsOf ho rfl ?_);refine DM ?_;refine yB Jn ?_;refine GK _
  (fun rest (b:Array Int) s'=>∃ done left,vs=done++left/\cE J s.heap left rest/\left.all dY=true/\b.toList=done.map (gY cx.w)/\∃ tk,s'={ s with toks:=tk })
  _ ?_ ?_ _ _ ⟨[],vs,rfl,rl,ha,rfl,s.toks,rfl⟩
 ·intro x rest b s' z5;refine qA z5 fun done left z162 hl hat hb z175=>?_;clear z5;subst z162;refine aq z175 fun tk z231=>?_;clear z175;subst z231;cases left with
  | nil=>exact nomatch (show _::_=[] from hl)
  | cons k ks=>
   refine aW hl fun y ys e r rs=>?_;clear hl;injection e with e1 e2;subst e1 e2;simp only[FD,Eb]at hat;refine DM (mB (s:={ s with toks:=tk }) r hat.1 ?_);first
    | exact DP ⟨done++[k],ks,by simp,rs,hat.2,by simp[hb],_,rfl⟩
    | exact DP (DP ⟨done++[k],ks,by simp,rs,hat.2,by simp[hb],_,rfl⟩)
 ·intro b s' z3;refine qA z3 fun done left z102 hl hat hb z115=>?_;clear z3;subst z102;refine aq z115 fun tk z171=>?_;clear z115;subst z171;cases left with
  | cons k ks=>(refine aW hl fun y ys e r rs=>?_;clear hl);exact nomatch e
  | nil=>
   rw[EC]at h;show D2 _ _ (retInt (Fk b.toList)) _ _ _;refine yF hb ?_;refine wpAny_ret_mkInt ?_;show D2 _ _ (if (decide (-(2:Int) ^ 63<=Fk (done.map (gY cx.w)))&&decide (Fk (done.map (gY cx.w))<2 ^ 63))=true then _ else _) Q E _;simp only[keyHash]at h;unfold reduceHash at h;by_cases hr:(decide (-(2:Int) ^ 63<=Fk (done.map (gY cx.w)))&&decide (Fk (done.map (gY cx.w))<2 ^ 63))=true
   ·refine yF (if_pos hr) ?_;rw[if_pos hr]at h;exact DP (h _)
   ·refine yF (if_neg hr) ?_;rw[if_neg hr]at h;exact DM (Gd (DP (h _)))
theorem ti{Q:Int->DQ->Prop}(hu:A.units<cLine)(r:cb J s.heap k v)(hk:bv k=true)(h:∀ tk,Q (keyHash cx.w k) { s with toks:=tk }):D2 cx.M A (pyHash v) Q E s:=by
 cases k with
 | int i=>exact mB (a:= .int i) r rfl (h _)
 | str i=>exact mB (a:= .str i) r rfl (h _)
 | tup vs=>
  refine dH r fun a its n z4 ho rl uu=>?_;clear r;subst z4;exact ux hu ho rl (by simpa[bv] using hk) h
 | _=>exact fT hk
theorem dX.get:∀ {es:List (AV × AV)} {ds:List DictEntry},dX cx.w J h es ds->∀ j:Nat,(∀ k v,es[j]? =DJ (k,v)->∃ e,ds[j]? =DJ e/\bv k=true/\cb J h k e.key/\cb J h v e.val/\e.hash=keyHash cx.w k):=by
 intro es ds d;induction d with
 | nil=>intro j k v e;exact nO e
 | cons hk rk rv hh r ih=>
  intro j k v e;cases j with
  | zero=>simp only[EL]at e;refine jB e ?_;exact⟨_,rfl,hk,rk,rv,hh⟩
  | succ j=>exact ih j k v e
theorem dX.length:∀ {es:List (AV × AV)} {ds:List DictEntry},dX cx.w J h es ds->ds.length=es.length:=by
 intro es ds d;induction d with
 | nil=>rfl
 | cons _ _ _ _ _ ih=>exact congrArg (· +1) ih
theorem cb.fun(I:cf cx J H h)(ha:bv a=true)(hb:bv b=true)(ra:cb J h a v)(rb:cb J h b v):a=b:=by
 refine cp (b8 I _ ra (nk ha)) fun pa as a1 a2 a3 a4=>?_;refine cp (b8 I _ rb (nk hb)) fun pb bs b1 b2 b3 b4=>?_;have:=SeqAt.Reads.unique _ _ _ _ _ a2 a1 b1;subst this;exact th ha hb (a4.symm.trans b4)
end
end Mine.Internal
end
section
open PySem PySem.W PyProof.Rows
namespace Mine.Internal
section
variable {cx:Cx} {A:Around} {E:DW->DQ->Prop} {s:DQ} {J:Jm} {H:Hp}
theorem uy{xs:List (AV × AV)}(hn:(xs.map (·.1)).Nodup){i j:Nat}{k p q:AV}(hi:xs[i]? =DJ (k,p))(hj:xs[j]? =DJ (k,q)):i=j:=by
 have hi':(xs.map (·.1))[i]? =DJ k:=by (refine DK DX ?_;refine yF hi ?_);rfl
 have hj':(xs.map (·.1))[j]? =DJ k:=by (refine DK DX ?_;refine yF hj ?_);rfl
 exact (Hk (DS.mp hi').1 hn).mp (hi'.trans hj'.symm)
structure rE(cx:Cx)(J:Jm)(H:Hp)(s:DQ)(xs:List (AV × AV))(es:Array DictEntry)(k:AV)(key:DW):Prop where
 size:es.size=xs.length
 at_:∀ j,j<es.size->∃ k' v' e,xs[j]? =DJ (k',v')/\es[j]? =DJ e/\bv k'=true/\cb J s.heap k' e.key/\e.hash=keyHash cx.w k'
 nd:(xs.map (·.1)).Nodup
 ok:bv k=true
 rep:cb J s.heap k key
theorem rE.of(D:dX cx.w J s.heap xs ds)(nd:(xs.map (·.1)).Nodup)(hk:bv k=true)(rk:cb J s.heap k key):rE cx J H s xs ds.toArray k key where
 size:=by simp[D.length]
 at_:=fun j hj=>by
  have hj':j<xs.length:=by simpa[D.length] using hj
  refine kZ (D.get j xs[j].1 xs[j].2 (Em hj')) fun e h1 h2 h3 uu h5=>?_;exact⟨xs[j].1,xs[j].2,e,Em hj',by simpa using h1,h2,h3,h5⟩
 nd:=nd
 ok:=hk
 rep:=rk
theorem rE.hashOf{xs es k key}(X:rE cx J H s xs es k key){j:Nat}{p:AV}(h:xs[j]? =DJ (k,p)):((es[j]?.map (·.hash)) == DJ (keyHash cx.w k))=true:=by
 have hj:j<es.size:=by refine yF X.size ?_;exact (DS.mp h).1
 refine iC (X.at_ j hj) fun k' v' e h1 h2 uu uu h5=>?_;rw[h]at h1;injection h1 with h1;injection h1 with h1 _;subst h1;refine yF h2 ?_;simp[h5]
theorem tj{a:Addr}{o:Obj}{ep:Nat}{xs:List (AV × AV)}{es:Array DictEntry}{k:AV}{key:DW}{Q:Option Nat->DQ->Prop}(hu:A.units+64<cLine)(I:cf cx J H s.heap)
  (ho:s.heap.get? a=DJ o) (hd:o.data= .dict es ep) (X:rE cx J H s xs es k key)
  (hnone:(∀ (j:Nat) (p:AV),xs[j]? ≠DJ (k,p))->Q none s) (hsome:∀ (j:Nat) (p:AV),xs[j]? =DJ (k,p)->Q (DJ j) s):
  D2 cx.M A (dictWalkPlain a key (keyHash cx.w k) es (placesWithHash es.size (fun i=>es[i]?.map (·.hash)) (keyHash cx.w k))) Q E s:=by
 unfold dictWalkPlain;refine DM ?_;refine GK _
  (fun rest b s'=>s'=s/\b=(none,())/\∃ i,rest=(II i (es.size - i)).filter (fun i=>(es[i]?.map (·.hash)) == DJ (keyHash cx.w k))/\i<=es.size/\
   ∀ j p,j<i->xs[j]? ≠DJ (k,p)) _ ?_ ?_ _ _
  ⟨rfl,rfl,0,by (dsimp only[placesWithHash];refine yF IJ ?_;refine yF (L8 _) ?_;rfl),Gz _,fun _ _ h=>absurd h (Kw _)⟩
 ·intro x rest b s' z5;refine bY z5 fun z160 z161 z175=>?_;clear z5;subst z160;subst z161;refine aM z175 fun i hr hi hno=>?_;clear z175;refine nw (Jo _ _ _ _ _ hr.symm) fun hix hxn hpx hskip hrest=>?_;have hlt:x<es.size:=by lia
  have hrest':rest=(II (x+1) (es.size - (x+1))).filter (fun i=>(es[i]?.map (·.hash)) == DJ (keyHash cx.w k)):=by refine DK hrest ?_;congr 2;lia
  refine iC (X.at_ x hlt) fun k' v' e hkv hex hk' re hh'=>?_;have hnox:∀ j p,j<x->xs[j]? ≠DJ (k,p):=fun j p hjx hj=>by
   rcases GM j i with h | h
   ·exact hno j p h hj
   ·have:=hskip j h hjx;rw[X.hashOf hj]at this;exact absurd this (by decide)
  have hnext:¬ k'=k->∀ j p,j<x+1->xs[j]? ≠DJ (k,p):=fun hne j p hjx hj=>by
   rcases GM j x with h | h
   ·exact hnox j p h hj
   ·have hjx':j=x:=Eo (bu (nat_lit 11029854074912) tt hjx) (bu (nat_lit 336603168) tt h);subst hjx';rw[hkv]at hj;injection hj with hj;injection hj with hj;exact hne hj
  refine yF hex ?_;dsimp only;by_cases hh:(e.hash == keyHash cx.w k)=true
  ·refine yF (if_pos hh) ?_;refine DM (Gv ho hd (DM (kT hu I re X.rep hk' X.ok (DM (Gv ho hd ?_)))));show D2 _ _ (if (ep != ep)=true then _ else _) _ E _;refine yF (if_neg (by simp)) ?_;by_cases hkk:k'=k
   ·refine yF (decide_eq_true hkk) ?_;have hkv:xs[x]? =DJ (k,v'):=hkk ▸ hkv;exact DM (Gd (DP (DP (hsome x _ hkv))))
   ·refine yF (decide_eq_false hkk) ?_;exact DM (Gd (DP ⟨rfl,rfl,x+1,hrest',hlt,hnext hkk⟩))
  ·refine yF (if_neg hh) ?_;refine DP ⟨rfl,rfl,x+1,hrest',hlt,hnext ?_⟩;intro hkk;rw[hh',hkk]at hh;simp at hh
 ·intro b s' z3;refine bY z3 fun z100 z101 z115=>?_;clear z3;subst z100;subst z101;refine aM z115 fun i hr hi hno=>?_;clear z115;have hall:∀ j,i<=j->j<es.size->((es[j]?.map (·.hash)) == DJ (keyHash cx.w k))=false:=by
   intro j h1 h2;have:=He.mp hr.symm j (JM.mpr ⟨h1,kt (nat_lit 12972654292201899075) tt h2 (Bd _ _)⟩);simpa using this
  refine DP (hnone fun j p hj=> ?_);rcases GM j i with h | h
  ·exact hno j p h hj
  ·have hjl:j<es.size:=by refine yF X.size ?_;exact (DS.mp hj).1
   have:=hall j h hjl;rw[X.hashOf hj]at this;exact tF this
theorem jH{a:Addr}{o:Obj}{ep:Nat}{xs:List (AV × AV)}{es:Array DictEntry}{x:Nm}{t:Tok}{Q:Option Nat->DQ->Prop}(hu:A.units+64<cLine)(I:cf cx J H s.heap)
  (ho:s.heap.get? a=DJ o) (hd:o.data= .dict es ep) (X:rE cx J H s xs es (.str x) (.str ⟨x.toArray⟩ t)) (hstr:(es.all fun e=>isExactStrKey e.key)=true)
  (hnone:(∀ (j:Nat) (p:AV),xs[j]? ≠DJ (.str x,p))->Q none s) (hsome:∀ (j:Nat) (p:AV),xs[j]? =DJ (.str x,p)->Q (DJ j) s):
  D2 cx.M A (foundByValue a (.str ⟨x.toArray⟩ t) es ⟨x.toArray⟩) Q E s:=by
 unfold foundByValue;cases hf:es.findIdx? (fun e=>e.key.isStr ⟨x.toArray⟩) with
 | none=>
  refine DP (hnone fun j p hj=> ?_);have hjl:j<es.size:=by refine yF X.size ?_;exact (DS.mp hj).1
  refine iC (X.at_ j hjl) fun k' v' e h1 h2 h3 h4 h5=>?_;rw[hj]at h1;injection h1 with h1;injection h1 with h1 _;subst h1;refine am h4 fun uu z16=>?_;clear h4;refine aq z16 fun t' h4=>?_;clear z16;have:=Array.findIdx?_eq_none_iff.mp hf e (Array.mem_of_getElem? h2);rw[h4]at this;simp[Gq]at this
 | some i=>
  refine af (Array.findIdx?_eq_some_iff_getElem.mp hf) fun hlt hi uu=>?_;refine iC (X.at_ i hlt) fun k' v' e h1 h2 h3 h4 h5=>?_;have hee:es[i]=e:=by rw[GQ hlt]at h2;exact EU h2
  rw[hee]at hi;dsimp only;refine yF h2 ?_;dsimp only;refine DM (Gv ho hd (DM (kT hu I h4 X.rep h3 X.ok (DM (Gv ho hd ?_)))));show D2 _ _ (if (ep != ep)=true then _ else _) _ E _;have hkk:k'= .str x:=by
   cases k' with
   | str y=>
    refine am h4 fun uu z16=>?_;clear h4;refine aq z16 fun t' h4=>?_;clear z16;rw[h4]at hi;simp[Gq]at hi;refine yF hi ?_;rfl
   | int y=>(refine aq h4 ?_;clear h4;intro t' h4);rw[h4]at hi;simp[Gq]at hi
   | tup y=>(refine lb h4 ?_;clear h4;intro a' its n h4 uu);rw[h4]at hi;simp[Gq]at hi
   | _=>exact fT h3
  subst hkk;refine yF (if_neg (by simp)) ?_;refine yF (decide_eq_true rfl) ?_;exact DM (Gd (DP (hsome i _ h1)))
theorem oO{k:AV}{key:DW}{stored:List DW}{Q:Bool->DQ->Prop}(rk:cb J s.heap k key)(hk:bv k=true)
  (hst:∀ v∈stored,∃ k',bv k'=true/\cb J s.heap k' v) (h:Q false s):D2 cx.M A (tableMayTell key stored) Q E s:=by
 unfold tableMayTell;split
 ·exact DP h
 ·refine DM (qh rk hk ?_);simp only[ET,EJ,if_false];refine DM ?_;refine GK _ (fun rest r s'=>s'=s/\r=(none,())/\∀ v∈rest,∃ k',bv k'=true/\cb J s.heap k' v) _ ?_ ?_ _ _ ⟨rfl,rfl,hst⟩
  ·intro x rest r s' z5;refine bY z5 fun z160 z161 hr=>?_;clear z5;subst z160;subst z161;refine af (hr x Fi) fun k' hk' hb=>?_;refine DM (qh hb hk' ?_);simp only[ET,EJ,if_false];exact DP ⟨rfl,rfl,fun v hv=>hr v (EM _ hv)⟩
  ·intro r s' z3;refine bY z3 fun z100 z101 uu=>?_;clear z3;subst z100;subst z101;exact DP h
theorem qi(hok:bv k=true)(r:cb J h k key):(∃ y t,k= .str y/\key= .str ⟨y.toArray⟩ t)\/(∃ y t,key= .int y t)\/(∃ b,key= .ref b):=by
 cases k with
 | str y=>exact am r fun _ z=>aq z fun t e=> .inl ⟨y,t,rfl,e⟩
 | int y=>exact aq r fun t e=> .inr (.inl ⟨y,t,e⟩)
 | tup y=>exact lb r fun a _ _ e _=> .inr (.inr ⟨a,e⟩)
 | _=>exact fT hok
theorem zx{c:Prop}[Decidable c]{f:α->Sem β}{Q:β->DQ->Prop}(h:D2 cx.M A ((if c then x else y) >>= f) Q E s):D2 cx.M A (if c then x >>= f else y >>= f) Q E s:=by
 by_cases q:c
 ·rewrite [if_pos q]at h ⊢;exact h
 ·rewrite [if_neg q]at h ⊢;exact h
set_option backward.match.sparseCases true in
set_option tactic.hygienic true in
theorem oP{a:Addr}{o:Obj}{ep:Nat}{xs:List (AV × AV)}{es:Array DictEntry}{k:AV}{key:DW}{Q:Option Nat->DQ->Prop}(hu:A.units+64<cLine)(I:cf cx J H s.heap)
  (ho:s.heap.get? a=DJ o) (hd:o.data= .dict es ep) (X:rE cx J H s xs es k key)
  (hnone:(∀ (j:Nat) (p:AV),xs[j]? ≠DJ (k,p))->Q none s) (hsome:∀ (j:Nat) (p:AV),xs[j]? =DJ (k,p)->Q (DJ j) s):
  D2 cx.M A (dictFind a key (keyHash cx.w k)) Q E s:=by
 have hst:∀ v∈(placesWithHash es.size (fun i=>es[i]?.map (·.hash)) (keyHash cx.w k)).filterMap (fun i=>es[i]?.map (·.key)),∃ k',bv k'=true/\cb J s.heap k' v:=by
  intro v hv;refine af (Hv.mp hv) fun i uu hi=>?_;cases hei:es[i]? with
  | none=>rw[hei]at hi;cases hi
  | some e=>
   rw[hei]at hi;obtain rfl:e.key=v:=by simpa using hi
   have hlt:i<es.size:=(Array.getElem?_eq_some_iff.mp hei).1;refine iC (X.at_ i hlt) fun k' v' e' h1 h2 h3 h4 h5=>?_;rw[hei]at h2;injection h2 with h2;subst h2;exact⟨k',h3,h4⟩
 have hany:∀ b,key= .ref b->¬ (es.any fun e=>e.key == J8 b&&e.hash != keyHash cx.w k)=true:=by
  intro b hb hc;rw[<- HX,List.any_eq_true]at hc;refine af hc ?_;clear hc;intro e hin hc;simp only[Eb,beq_iff_eq,bne_iff_ne,ne_eq]at hc;refine aq (GU hin) fun i z16=>?_;refine aq z16 fun hi z72=>?_;clear z16;subst z72;have hi':i<es.size:=by simpa using hi
  refine iC (X.at_ i hi') fun k' v' e' h1 h2 h3 h4 h5=>?_;have hee:es.toList[i]=e':=by rw[GQ hi']at h2;simpa using EU h2
  rw[hee]at hc;have:k'=k:=cb.fun I h3 X.ok h4 (by (refine yF hc.1 ?_;refine yB hb ?_);exact X.rep)
  subst this;exact hc.2 h5
 unfold dictFind;try with_reducible refine E0 ?_
 refine DM (JN ho hd ?_);dsimp only;generalize (placesWithHash es.size (fun i=>es[i]?.map (·.hash)) (keyHash cx.w k)).filterMap (fun i=>es[i]?.map (·.key))=found at hst ⊢;by_cases hall:((key::found).all carriedByValue)=true
 ·refine yF (if_pos hall) ?_;have old:=tj (Q:=Q) (E:=E) hu I ho hd X hnone hsome;rcases qi X.ok X.rep with⟨y,t,e1,e2⟩ | ⟨y,t,e2⟩ | ⟨y,e2⟩
  ·revert old;refine yF e2 ?_;intro old;by_cases hstrs:(es.all fun e=>isExactStrKey e.key)=true
   ·show D2 _ _ (if (es.all fun e=>isExactStrKey e.key)=true then _ else _) Q E s;refine yF (if_pos hstrs) ?_;exact jH hu I ho hd (e1 ▸ e2 ▸ X) hstrs (e1 ▸ hnone) (e1 ▸ hsome)
   ·show D2 _ _ (if (es.all fun e=>isExactStrKey e.key)=true then _ else _) Q E s;refine yF (if_neg hstrs) ?_;exact old
  ·revert old;refine yF e2 ?_;intro old;exact old
  ·revert old;refine yF e2 ?_;intro old;exact old
 ·refine yF (if_neg hall) ?_;have main:D2 cx.M A (do
    let tells <- if found == [key] then pure false else tableMayTell key found
    if tells&&found.length≥2 then unsupported "dict.find:order-among-keys-of-one-hash"
    let mut hit:Option Nat:=none
    for i in placesWithHash es.size (fun i=>es[i]?.map (·.hash)) (keyHash cx.w k) do
     if let DJ e:=es[i]? then
      if e.hash == keyHash cx.w k then
       let before <- dictEpoch a (keyPart key)
       let same <- eqBool e.key key
       if (<- dictEpoch a (keyPart key)) != before then unsupported "dict.changed-during-lookup"
       if same then
        if hit.isSome then unsupported "dict.find:order-among-keys-of-one-hash"
        NW "dict.find.hit"
        if found.length<2 then return DJ i
        hit:=DJ i
       else
        NW "dict.find.same-hash-other-key"
        if tells&& !(0<=keyHash cx.w k&&keyHash cx.w k<32) then unsupported "dict.find:asked-again-or-not-hangs-on-the-table"
    return hit) Q E s:=by
   dsimp only;refine zx (DM (Fm (Q:=fun t s'=>false=t/\s=s') ?_ ?_ fun _ _ e=>e))
   ·split
    ·exact DP ⟨rfl,rfl⟩
    ·exact oO X.rep X.ok hst ⟨rfl,rfl⟩
   ·intro uu uu z3;refine am z3 fun z100 z101=>?_;clear z3;subst z100;subst z101;refine yF (if_neg (by simp)) ?_;refine DM ?_;refine GK _
     (fun rest b s'=>s'=s/\∃ i hit,b=(none,hit)/\rest=(II i (es.size - i)).filter (fun i=>(es[i]?.map (·.hash)) == DJ (keyHash cx.w k))/\i<=es.size/\
      ((hit=none/\∀ j p,j<i->xs[j]? ≠DJ (k,p))\/∃ j p,hit=DJ j/\j<i/\xs[j]? =DJ (k,p))) _ ?_ ?_ _ _
     ⟨rfl,0,none,rfl,by (dsimp only[placesWithHash];refine yF IJ ?_;refine yF (L8 _) ?_;rfl),Gz _,.inl ⟨rfl,fun _ _ h=>absurd h (Kw _)⟩⟩
    ·intro x rest b s' z5;refine am z5 fun z160 z175=>?_;clear z5;subst z160;refine cp z175 fun i hit z232 hr hi hH=>?_;clear z175;subst z232;refine nw (Jo _ _ _ _ _ hr.symm) fun hix hxn hpx hskip hrest=>?_;have hlt:x<es.size:=by omega
     have hrest':rest=(II (x+1) (es.size - (x+1))).filter (fun i=>(es[i]?.map (·.hash)) == DJ (keyHash cx.w k)):=by refine DK hrest ?_;congr 2;omega
     refine iC (X.at_ x hlt) fun k' v' e hkv hex hk' re hh'=>?_;have hHx:(hit=none/\∀ j p,j<x->xs[j]? ≠DJ (k,p))\/∃ j p,hit=DJ j/\j<x/\xs[j]? =DJ (k,p):=by
      rcases hH with⟨h0,hno⟩ | ⟨j,p,h1,hji,hj⟩
      ·refine .inl ⟨h0,fun j p hjx hj=> ?_⟩;rcases GM j i with h | h
       ·exact hno j p h hj
       ·have:=hskip j h hjx;rw[X.hashOf hj]at this;exact absurd this (by decide)
      ·exact .inr ⟨j,p,h1,Ea hji hix,hj⟩
     have hstay:¬ k'=k->((hit=none/\∀ j p,j<x+1->xs[j]? ≠DJ (k,p))\/∃ j p,hit=DJ j/\j<x+1/\xs[j]? =DJ (k,p)):=by
      intro hne;rcases hHx with⟨h0,hno⟩ | ⟨j,p,h1,hjx,hj⟩
      ·refine .inl ⟨h0,fun j p hjx hj=> ?_⟩;rcases GM j x with h | h
       ·exact hno j p h hj
       ·have hjx':j=x:=Eo (bu (nat_lit 11029854074912) tt hjx) (bu (nat_lit 336603168) tt h);subst hjx';rw[hkv]at hj;injection hj with hj;injection hj with hj;exact hne hj
      ·exact .inr ⟨j,p,h1,Eg hjx,hj⟩
     refine yF hex ?_;dsimp only;by_cases hh:(e.hash == keyHash cx.w k)=true
     ·refine yF (if_pos hh) ?_;refine DM (Gv ho hd (DM (kT hu I re X.rep hk' X.ok (DM (Gv ho hd ?_)))));show D2 _ _ (if (ep != ep)=true then _ else _) _ E _;refine yF (if_neg (by simp)) ?_;by_cases hkk:k'=k
      ·refine yF (decide_eq_true hkk) ?_;have hkv:xs[x]? =DJ (k,v'):=hkk ▸ hkv;rcases hHx with⟨h0,_⟩ | ⟨j,p,_,hjx,hj⟩
       ·refine yF h0 ?_;first | refine yF (if_pos rfl) ?_ | skip
        simp only[G0,EJ,if_false];first | refine DM (DP ?_) | skip
        refine DM (Gd ?_);split
        ·exact DP (DP (hsome x _ hkv))
        ·exact DP ⟨rfl,x+1,DJ x,rfl,hrest',hlt,.inr ⟨x,_,rfl,EA x,hkv⟩⟩
       ·exact absurd (uy X.nd hj hkv) (D4 hjx)
      ·refine yF (decide_eq_false hkk) ?_;simp only[EJ,if_false];refine DM (Gd ?_);first | refine yF (if_neg (by simp)) ?_ | skip
       first
        | exact DP ⟨rfl,x+1,hit,rfl,hrest',hlt,hstay hkk⟩
        | exact DM (DP (DP ⟨rfl,x+1,hit,rfl,hrest',hlt,hstay hkk⟩))
     ·refine yF (if_neg hh) ?_;refine DP ⟨rfl,x+1,hit,rfl,hrest',hlt,hstay ?_⟩;intro hkk;rw[hh',hkk]at hh;simp at hh
    ·intro b s' z3;refine am z3 fun z100 z115=>?_;clear z3;subst z100;refine cp z115 fun i hit z172 hr hi hH=>?_;clear z115;subst z172;have hall:∀ j,i<=j->j<es.size->((es[j]?.map (·.hash)) == DJ (keyHash cx.w k))=false:=by
      intro j h1 h2;have:=He.mp hr.symm j (JM.mpr ⟨h1,kt (nat_lit 12972654292201899075) tt h2 (Bd _ _)⟩);simpa using this
     rcases hH with⟨rfl,hno⟩ | ⟨j,p,rfl,_,hj⟩
     ·refine DP (hnone fun j p hj=> ?_);rcases GM j i with h | h
      ·exact hno j p h hj
      ·have hjl:j<es.size:=by refine yF X.size ?_;exact (DS.mp hj).1
       have:=hall j h hjl;rw[X.hashOf hj]at this;cases this
     ·exact DP (hsome j p hj)
  rcases qi X.ok X.rep with⟨y,t,e1,e2⟩ | ⟨y,t,e2⟩ | ⟨y,e2⟩
  ·revert main;refine yF e2 ?_;intro main;by_cases hstrs:(es.all fun e=>isExactStrKey e.key)=true
   ·show D2 _ _ (if (es.all fun e=>isExactStrKey e.key)=true then _ else _) Q E s;refine yF (if_pos hstrs) ?_;exact jH hu I ho hd (e1 ▸ e2 ▸ X) hstrs (e1 ▸ hnone) (e1 ▸ hsome)
   ·show D2 _ _ (if (es.all fun e=>isExactStrKey e.key)=true then _ else _) Q E s;refine yF (if_neg hstrs) ?_;exact main
  ·revert main;refine yF e2 ?_;intro main;exact main
  ·have ha:=hany _ e2;revert main ha;refine yF e2 ?_;intro main ha;show D2 _ _ (if (es.any fun e=>e.key == J8 y&&e.hash != keyHash cx.w k)=true then _ else _) Q E s;refine yF (if_neg ha) ?_;exact main
end
end Mine.Internal
end
section
open PySem PySem.W PyProof.Rows
namespace Mine.Internal
theorem rF(ds:List DictEntry)(n:Nat)(x:DictEntry):Il (·.push x) (dictOf ds n)=dictOf (ds++[x]) (n+1):=by
 unfold dictOf;refine yB (List.push_toArray ds x) ?_;rfl
theorem tm(ds:List DictEntry)(n j:Nat)(f:DictEntry->DictEntry):Ki (·.modify j f) (dictOf ds n)=dictOf (ds.modify j f) n:=by
 unfold dictOf;refine yB (List.modify_toArray (f:=f) (l:=ds) (i:=j)) ?_;rfl
theorem oQ:∀ {es:List (AV × AV)},(∀ (j:Nat) (p:AV),es[j]? ≠DJ (k,p))->br es k=none
 | [],_=>rfl
 | (a,v)::r,h=>by
  rewrite[dC];rewrite[if_neg (fun e=>h 0 v (by simp[e]))];exact oQ fun j p q=>h (j+1) p (by simpa using q)
theorem oR:∀ {es:List (AV × AV)} {j:Nat},(es.map (·.1)).Nodup->es[j]? =DJ (k,p)->br es k=DJ p
 | [],_,_,h=>by simp at h
 | (a,v)::r,0,_,h=>by
  simp only[EL,D7,Fp]at h;rewrite[dC];refine DK (if_pos h.1) ?_;refine yF h.2 ?_;rfl
 | (a,v)::r,j+1,nd,h=>by
  simp only[F0]at h;rw[Fq,FY]at nd;rewrite[dC];rewrite[if_neg (fun e=>nd.1 (by refine yF e ?_;exact Es.mpr ⟨_,D8 h,rfl⟩))];exact oR nd.2 h
theorem lL:∀ {es:List (AV × AV)},(∀ (j:Nat) (p:AV),es[j]? ≠DJ (k,p))->dz es k v=es++[(k,v)]
 | [],_=>rfl
 | (a,x)::r,h=>by
  rewrite[ke];rewrite[if_neg (fun e=>h 0 x (by simp[e]))];rewrite[lL fun j p q=>h (j+1) p (by simpa using q)];rfl
theorem lM:∀ {es:List (AV × AV)} {j:Nat},(es.map (·.1)).Nodup->es[j]? =DJ (k,p)->dz es k v=es.set j (k,v)
 | [],_,_,h=>by simp at h
 | (a,x)::r,0,_,h=>by
  simp only[EL,D7,Fp]at h;rewrite[ke];refine DK (if_pos h.1) ?_;refine yF h.1 ?_;rfl
 | (a,x)::r,j+1,nd,h=>by
  simp only[F0]at h;rw[Fq,FY]at nd;rewrite[ke];rewrite[if_neg (fun e=>nd.1 (by refine yF e ?_;exact Es.mpr ⟨_,D8 h,rfl⟩))];refine yF (lM nd.2 h) ?_;rfl
theorem kU(nd:(es.map (·.1)).Nodup):((dz es k v).map (·.1)).Nodup:=by
 by_cases h:∃ (j:Nat) (p:AV),es[j]? =DJ (k,p)
 ·refine eR h ?_;clear h;intro j p h;refine yF (lM nd h) ?_;refine yF Ou ?_;have:(es.map (·.1)).set j k=es.map (·.1):=by
   apply FU ;intro i;by_cases hij:j=i
   ·subst hij;have hl:=(DS.mp h).1;refine DK (Fu (by simpa using hl)) ?_;refine yF DX ?_;refine yF h ?_;rfl
   ·refine DK (F8 hij) ?_;rfl
  refine yF this ?_;exact nd
 ·have h':∀ (j:Nat) (p:AV),es[j]? ≠DJ (k,p):=fun j p q=>h ⟨j,p,q⟩;refine yF (lL h') ?_;refine yF Ez ?_;refine Fa.mpr ⟨nd,by simp,?_⟩;intro x hx y hy;simp only[Fq,JO,DT]at hy;subst hy;rintro rfl
  refine af (Es.mp hx) fun q hq hq2=>?_;refine aq (GU hq) fun j z16=>?_;refine aq z16 fun hj z72=>?_;clear z16;subst z72;exact h' j es[j].2 (by (refine DK (Em hj) ?_;refine yB hq2 ?_;rfl))
section
variable {cx:Cx} {A:Around} {E:DW->DQ->Prop} {s:DQ} {J:Jm} {H:Hp}
theorem dX.setAt(rv:cb J h v val):∀ {es:List (AV × AV)} {ds:List DictEntry} {j:Nat} {p:AV},dX cx.w J h es ds->es[j]? =DJ (k,p)->
  dX cx.w J h (es.set j (k,v)) (ds.modify j fun e=>{ e with val:=val }):=by
 intro es ds j p d;induction d generalizing j with
 | nil=>intro e;exact nO e
 | cons hk rk rv' hh r ih=>
  intro e;cases j with
  | zero=>
   simp only[EL]at e;refine yB (Prod.mk.inj (EU e)).1 ?_;exact .cons hk rk rv hh r
  | succ j=>exact .cons hk rk rv' hh (ih e)
theorem dX.push(hk:bv k=true)(rk:cb J h k key)(rv:cb J h v val):∀ {es:List (AV × AV)} {ds:List DictEntry},dX cx.w J h es ds->
  dX cx.w J h (es++[(k,v)]) (ds++[⟨keyHash cx.w k,key,val⟩]):=by
 intro es ds d;induction d with
 | nil=>exact .cons hk rk rv rfl .nil
 | cons hk' rk' rv' hh r ih=>exact .cons hk' rk' rv' hh ih
theorem mD{Q:Option DW->DQ->Prop}(hu:A.units+64<cLine)(I:cf cx J H s.heap)(ho:s.heap.get? a=DJ (dictOf ds n))
  (D:dX cx.w J s.heap es ds) (nd:(es.map (·.1)).Nodup) (rk:cb J s.heap k key) (hk:bv k=true)
  (hnone:br es k=none->∀ tk,Q none { s with toks:=tk }) (hsome:∀ v val,br es k=DJ v->cb J s.heap v val->∀ tk,Q (DJ val) { s with toks:=tk }):
  D2 cx.M A (dictGet a key) Q E s:=by
 unfold dictGet;try with_reducible refine E0 ?_
 refine DM (ti (bu (nat_lit 388139458253248) tt hu) rk hk fun tk=> ?_);refine DM (oP (s:={ s with toks:=tk }) (H:=H) hu I ho rfl (rE.of D nd hk rk) (fun h=> ?_) fun j p h=> ?_)
 ·exact DP (hnone (oQ h) tk)
 ·refine kZ (D.get j _ _ h) fun e h1 h2 h3 h4 h5=>?_;refine DM (JN (s:={ s with toks:=tk }) ho rfl (DP ?_));have:ds.toArray[j]? =DJ e:=by simpa using h1
  refine yF this ?_;exact hsome p e.val (oR nd h) h4 tk
theorem qj{a:Addr}{ds:List DictEntry}{n j₀:Nat}{es:List (AV × AV)}{k v:AV}{key val:DW}{Q:Unit->DQ->Prop}(hu:A.units+64<cLine)(I:cf cx J H s.heap)(hJ:J[j₀]? =DJ a)(ho:s.heap.get? a=DJ (dictOf ds n))
  (D:dX cx.w J s.heap es ds) (nd:(es.map (·.1)).Nodup) (hne:n=es.length) (rk:cb J s.heap k key) (hk:bv k=true) (rv:cb J s.heap v val) (hz:es.length<bo)
  (hQ:∀ h tk ds' n',FE a s.heap h->h.get? a=DJ (dictOf ds' n')->bV J J s.heap h bF->dX cx.w J h (dz es k v) ds'->n'=(dz es k v).length->Q () { s with heap:=h,toks:=tk }):
  D2 cx.M A (dictSet a key val) Q E s:=by
 unfold dictSet;try with_reducible refine E0 ?_
 refine DM (ti (bu (nat_lit 388139458253248) tt hu) rk hk fun tk=> ?_);unfold dictSetHashed;try with_reducible refine E0 ?_
 have hz':ds.length<=sizeLine:=by
  refine yF D.length ?_;have z1:bo=1048576:=rfl;have z2:sizeLine=16777216:=by decide
  exact bS (nat_lit 13334267096524135410233877154188772801) tt hz z1 z2
 refine DM (oP (s:={ s with toks:=tk }) (H:=H) hu I ho rfl (rE.of D nd hk rk) (fun h=> ?_) fun j p h=> ?_)
 ·have S:bV J J s.heap (s.heap.update a (Il (·.push ⟨keyHash cx.w k,key,val⟩))) bF:=
   I.stp (dy hJ) (E3 ..) (by refine yF (EQ _ ho rfl) ?_;simp)
  have e1:(s.heap.update a (Il (·.push ⟨keyHash cx.w k,key,val⟩))).get? a=DJ (dictOf (ds++[⟨keyHash cx.w k,key,val⟩]) (n+1)):=by
   refine DK (EQ _ ho rfl) ?_;exact congrArg DJ (rF _ _ _)
  refine DM (Gd (wpAny_updateDictKeys (hz:=by simpa using hz') (s:={ s with toks:=tk }) ho rfl (hQ _ tk _ _ (E3 ..) e1 S ?_ (by (refine yF (lL h) ?_;refine yF hne ?_);simp))));refine yF (lL h) ?_;exact dX.push hk (rk.mono S) (rv.mono S) (D.mono S)
 ·have S:bV J J s.heap (s.heap.update a (Ki (·.modify j fun e=>{ e with val:=val }))) bF:=
   I.stp (dy hJ) (E3 ..) (by refine yF (EQ _ ho rfl) ?_;simp)
  have e1:(s.heap.update a (Ki (·.modify j fun e=>{ e with val:=val }))).get? a=DJ (dictOf (ds.modify j fun e=>{ e with val:=val }) n):=by
   refine DK (EQ _ ho rfl) ?_;exact congrArg DJ (tm _ _ _ _)
  refine DM (Gd (DM (wpAny_updateDict (s:={ s with toks:=tk }) ho rfl (wpAny_point (hQ _ tk _ _ (E3 ..) e1 S ?_ (by (refine yF (lM nd h) ?_;refine DK hne ?_);simp))))));refine yF (lM nd h) ?_;exact dX.setAt (rv.mono S) (D.mono S) h
theorem ia(ho:s.heap.get? a=DJ (dictOf ds n)):s.TypeIs (.ref a) "dict" :=⟨_,ho,rfl⟩
theorem cf.notSys{h:Heap}(I:cf cx J H h){k:Nat}{a:Addr}(hJ:J[k]? =DJ a):(a == sysModules)=false:=by
 have:=I.sys a (dy hJ);simpa using this
theorem jI{k₀:Nat}{a:Addr}{es:List (AV × AV)}{k:AV}{key:DW}{Q:Bool->DQ->Prop}(hu:A.units+70<cLine)(I:cf cx J H s.heap)(hJ:J[k₀]? =DJ a)(hd:H[k₀]? =DJ (.dict es))
  (rk:cb J s.heap k key) (hk:bv k=true) (hQ:∀ tk,Q (br es k).isSome { s with toks:=tk }):D2 cx.M A (contains (.ref a) key) Q E s:=by
 refine cp (I.rep.obj _ _ _ hd hJ) fun ds n ho D nd hne=>?_;have hT:=ia ho;unfold contains;try with_reducible refine E0 ?_
 refine DM (Hn hT Hy.lookup ?_);show D2 _ _ (if (DJ (Lq "dict.__contains__") == DJ Ic)=true then _ else _) _ E s;refine yF (if_neg (by refine yF (J7 _) ?_;exact EY)) ?_;refine DM (wpAny_callSpecialUnlessNone?_slot (name:=DN "__contains__") hT Hy
  (Gk Hy hT entry_dict_contains ?_ (args_dict_contains _ _)))
 show D2 _ _ (dictGet a key >>= _) _ _ s;refine DM (mD (by show A.units+1+64<cLine;exact bu (nat_lit 13346021548853965078876608) tt hu) I ho D nd rk hk (fun h tk=> ?_) fun v val h _ tk=> ?_)
 ·show D2 _ _ (Builtin.Dict.pendingKey? a key >>= _) _ _ _;have:=hQ tk;rw[h]at this;exact DM (wpAny_pendingKey_other (I.notSys hJ) (DP ⟨_,rfl,Hd this⟩))
 ·show D2 _ _ (ret (.bool true)) _ _ _;have:=hQ tk;rw[h]at this;exact DP ⟨_,rfl,Hd this⟩
theorem yn{k₀:Nat}{a:Addr}{es:List (AV × AV)}{k:AV}{key:DW}{Q:DW->DQ->Prop}(hu:A.units+70<cLine)(I:cf cx J H s.heap)(hJ:J[k₀]? =DJ a)(hd:H[k₀]? =DJ (.dict es))
  (rk:cb J s.heap k key) (hk:bv k=true) (hQ:∀ tk,Q (.bool (br es k).isSome) { s with toks:=tk }):D2 cx.M A (compareOp .In key (.ref a)) Q E s:=by
 show D2 _ _ (do return .bool (<- contains (.ref a) key)) Q E s;exact DM (jI hu I hJ hd rk hk fun tk=>DP (hQ tk))
theorem tn{k₀:Nat}{a:Addr}{es:List (AV × AV)}{k:AV}{key:DW}{Q:DW->DQ->Prop}(hu:A.units+70<cLine)(I:cf cx J H s.heap)(hJ:J[k₀]? =DJ a)(hd:H[k₀]? =DJ (.dict es))
  (rk:cb J s.heap k key) (hk:bv k=true) (hQ:∀ tk,Q (.bool (!(br es k).isSome)) { s with toks:=tk }):D2 cx.M A (compareOp .NotIn key (.ref a)) Q E s:=by
 show D2 _ _ (do return .bool (!(<- contains (.ref a) key))) Q E s;exact DM (jI hu I hJ hd rk hk fun tk=>DP (hQ tk))
theorem kh{k₀:Nat}{a:Addr}{es:List (AV × AV)}{k v:AV}{key:DW}(hu:A.units+70<cLine)(I:cf cx J H s.heap)(hJ:J[k₀]? =DJ a)(hd:H[k₀]? =DJ (.dict es))
  (rk:cb J s.heap k key) (hk:bv k=true) (hv:br es k=DJ v):D2 cx.M A (getItem (.ref a) key) (ak cx J s v H) E s:=by
 refine cp (I.rep.obj _ _ _ hd hJ) fun ds n ho D nd hne=>?_;have hT:=ia ho;unfold getItem;try with_reducible refine E0 ?_
 refine DM (HK hT (by decide) ?_);refine DM (G5 (name:=DN "__getitem__") hT HL
  (Gk HL hT entry_dict_getitem ?_ (args_dict_getitem _ _)))
 show D2 _ _ (dictGet a key >>= _) _ _ s;refine DM (mD (by show A.units+1+64<cLine;exact bu (nat_lit 13346021548853965078876608) tt hu) I ho D nd rk hk (fun h tk=> ?_) fun v' val h r tk=> ?_)
 ·rw[h]at hv;exact nO hv
 ·rw[hv]at h;injection h with h;subst h;exact DP ⟨val,rfl,DP (ak.pure I r)⟩
theorem pA{k₀:Nat}{a:Addr}{es:List (AV × AV)}{k v:AV}{key val:DW}{Q:Unit->DQ->Prop}(hu:A.units+70<cLine)(I:cf cx J H s.heap)(hJ:J[k₀]? =DJ a)(hd:H[k₀]? =DJ (.dict es))
  (rk:cb J s.heap k key) (hk:bv k=true) (rv:cb J s.heap v val) (hz:es.length<bo)
  (hQ:∀ h tk,bV J J s.heap h bF->cf cx J (H.set k₀ (.dict (dz es k v))) h->Q () { s with heap:=h,toks:=tk }):D2 cx.M A (setItem (.ref a) key val) Q E s:=by
 refine cp (I.rep.obj _ _ _ hd hJ) fun ds n ho D nd hne=>?_;have hT:=ia ho;unfold setItem;try with_reducible refine E0 ?_
 refine DM (HK hT (by decide) ?_);refine DM (G5 (name:=DN "__setitem__") hT JP
  (Gk JP hT entry_dict_setitem ?_ (args_dict_setitem _ _ _)))
 show D2 _ _ (Builtin.Dict.notOrdered "__setitem__" ⟨[.ref a,key,val],[]⟩ >>= _) _ _ s;refine DM (wpAny_notOrdered_dict hT ?_);show D2 _ _ (dictSet a key val >>= _) _ _ s;refine DM (qj (by show A.units+1+64<cLine;exact bu (nat_lit 13346021548853965078876608) tt hu) I hJ ho D nd hne rk hk rv hz fun h tk ds' n' hs e S D' hn'=> ?_);exact DP ⟨.none,rfl,DP (hQ h tk S (I.set hJ hs ⟨ds',n',e,D',kU nd,hn'⟩))⟩
theorem uz{k₀:Nat}{a:Addr}{es:List (AV × AV)}{k d:AV}{key dv:DW}(hu:A.units+70<cLine)(I:cf cx J H s.heap)(hJ:J[k₀]? =DJ a)(hd:H[k₀]? =DJ (.dict es))
  (rk:cb J s.heap k key) (hk:bv k=true) (rd:cb J s.heap d dv):D2 cx.M A (call (.builtin "dict.get") [.ref a,key,dv]) (ak cx J s ((br es k).getD d) H) E s:=by
 refine cp (I.rep.obj _ _ _ hd hJ) fun ds n ho D nd hne=>?_;have hT:=ia ho;refine Gk Ir hT PySem.F.entry_dict_get ?_ (PySem.F.args_dict_get_3 _ _ _);show D2 _ _ (dictGet a key >>= _) _ _ s;refine DM (mD (by show A.units+1+64<cLine;exact bu (nat_lit 13346021548853965078876608) tt hu) I ho D nd rk hk (fun h tk=> ?_) fun v' val h r tk=> ?_)
 ·refine yF h ?_;show D2 _ _ (Builtin.Dict.missed a key >>= _) _ _ _;exact DM (wpAny_missed_other (I.notSys hJ) (DP ⟨dv,rfl,ak.pure I rd⟩))
 ·refine yF h ?_;exact DP ⟨val,rfl,ak.pure I r⟩
end
end Mine.Internal
end
section
open PySem PySem.W PyProof.Rows
namespace Mine.Internal
theorem zy:bo=1048576:=rfl
theorem jJ:sizeLine=16777216:=by decide
theorem rG{i:Int}{n:Nat}(h0:0<=i)(h:i.toNat<n):seqIndex? i n=DJ i.toNat:=by
 have h1:¬ i<0:=GJ h0;have h2:i<(n:Int):=by lia
 simp only[seqIndex?,if_neg h1,h0,h2,decide_true,Lv,if_true]
theorem rH{i:Int}{n:Nat}(h0:i<0)(h:0<=i+n):seqIndex? i n=DJ (i+n).toNat:=by
 have h2:i+(n:Int)<(n:Int):=by lia
 simp only[seqIndex?,if_pos h0,h,h2,decide_true,Lv,if_true]
theorem jK:∀ l:List α,l.dropLast=l.eraseIdx (l.length - 1)
 | []=>rfl
 | [_]=>rfl
 | x::y::r=>by
  have:=jK (y::r);simp only[D6,Nat.add_sub_cancel]at this ⊢;rewrite[List.eraseIdx_cons_succ];refine yB this ?_;rfl
section
variable {cx:Cx} {A:Around} {E:DW->DQ->Prop} {s:DQ} {J:Jm} {H:Hp}
theorem i9{i:Int}(I:cf cx J H s.heap)(ra:cb J s.heap (.tup vs) va)(h:eM vs i=DJ v):
  D2 cx.M A (getItem va (.int i t)) (ak cx J s v H) E s:=by
 refine dH ra fun a its n z4 ho rl htz=>?_;clear ra;subst z4;have hlen:=rl.length;simp only[Ej]at hlen;have T:IsTup s.heap a its:=⟨_,ho,rfl,_,rfl⟩;unfold eM at h;split at h
 ·rename_i h0;refine af (rl.get h) fun val e r=>?_;have hlt:=(DS.mp h).1;have hi:seqIndex? i its.size=DJ i.toNat:=rG h0 (bS (nat_lit 12129358853185) tt hlt hlen);with_reducible refine getItem_tuple T (Int.le_trans (by decide) h0) (Cu h0 hlt hlen htz) hi (by simpa using e) ?_
  exact ak.pure (tk:=s.toks) I r
 ·rename_i h0;split at h
  ·rename_i h1;refine af (rl.get h) fun val e r=>?_;have hlt:=(DS.mp h).1;have hi:seqIndex? i its.size=DJ (i+vs.length).toNat:=by refine yF hlen ?_;exact rH (HY h0) h1
   with_reducible refine getItem_tuple T (Bn h1 hlen htz) (Int.lt_trans (HY h0) (by decide)) hi (by simpa using e) ?_
   exact ak.pure (tk:=s.toks) I r
  ·exact nO h
theorem kj{i:Int}{k:Nat}(I:cf cx J H s.heap)(hJ:J[k]? =DJ a)(hk:H[k]? =DJ (.list vs))(h:eM vs i=DJ v):
  D2 cx.M A (getItem (.ref a) (.int i t)) (ak cx J s v H) E s:=by
 refine aW (I.rep.obj _ _ _ hk hJ) fun its n ho rl hz=>?_;have hlen:=rl.length;simp only[Ej]at hlen;have L:s.heap.IsList a its:=⟨_,ho,rfl,_,rfl⟩;unfold eM at h;split at h
 ·rename_i h0;refine af (rl.get h) fun val e r=>?_;have hlt:=(DS.mp h).1;with_reducible refine wpAny_getItem_list L h0 (Cu h0 hlt hlen hz) (x:=val) (by simpa using e) ?_
  exact ak.pure (tk:=s.toks) I r
 ·rename_i h0;split at h
  ·rename_i h1;refine af (rl.get h) fun val e r=>?_;have hlt:=(DS.mp h).1;with_reducible refine wpAny_getItem_list_neg L (HY h0) (by lia) (Bn h1 hlen hz) (x:=val) (by refine yF hlen ?_;simpa using e) ?_
   exact ak.pure (tk:=s.toks) I r
  ·exact nO h
theorem pB{vs:List AV}{v:AV}{val:DW}{i:Int}{k:Nat}{a:Addr}{t:Tok}{Q:Unit->DQ->Prop}(I:cf cx J H s.heap)(hJ:J[k]? =DJ a)(hk:H[k]? =DJ (.list vs))(h0:0<=i)(hlt:i.toNat<vs.length)(rv:cb J s.heap v val)
  (hQ:∀ h tk,bV J J s.heap h bF->cf cx J (H.set k (.list (vs.set i.toNat v))) h->Q () { s with heap:=h,toks:=tk }):
  D2 cx.M A (setItem (.ref a) (.int i t) val) Q E s:=by
 refine aW (I.rep.obj _ _ _ hk hJ) fun its n ho rl hz=>?_;have hlen:=rl.length;simp only[Ej]at hlen;have L:s.heap.IsList a its:=⟨_,ho,rfl,_,rfl⟩;unfold setItem;try with_reducible refine E0 ?_
 first | refine DM (DP ?_) | skip
 refine DM (HK L.typeIs (by decide) ?_);refine DM (G5 (name:=DN "__setitem__") L.typeIs JQ
  (Gk JQ L.typeIs entry_list_setitem ?_ (args_list_setitem _ _ _)))
 show D2 _ _ (KL (.int i t) >>= _) _ _ s;refine DM (wpAny_listSubscript_int (fitsIndex_of h0 (Cu h0 hlt hlen hz)) ?_);refine aq (HZ h0) fun j z2=>?_;subst z2;simp only[F9]at hlt hQ;have hj:j<its.size:=bS (nat_lit 12129358853185) tt hlt hlen;have hx':its[j]? =DJ its[j]:=GQ hj;show D2 _ _ ((seqItemAt a j >>= fun r=>pure (r.map (j,·))) >>= _) _ _ s;refine DM (DM (wpAny_seqItemAt ho rfl (DP ?_)));refine yF hx' ?_;show D2 _ _ (setSeqItemAt a j val >>= _) _ _ s;have fin:Q () { s with heap:=s.heap.update a (Gu (·.setIfInBounds j val)) }:=by
  obtain⟨n',e1⟩:∃ n',(s.heap.update a (Gu (·.setIfInBounds j val))).get? a=DJ (listOf (its.setIfInBounds j val) n'):=⟨_,EQ _ ho rfl⟩;have S:=I.stp (dy hJ) (E3 s.heap a (Gu (·.setIfInBounds j val))) (by refine yF e1 ?_;simp);refine hQ _ s.toks S (I.set hJ (E3 ..) ⟨_,n',e1,?_,by refine yF Array.size_setIfInBounds ?_;exact hz⟩);refine yF Array.toList_setIfInBounds ?_;exact cE.set (rv.mono S) j (rl.mono S)
 refine DM (wpAny_setSeqItemAt ho rfl ?_);first
  | exact DM (DP (DP ⟨.none,rfl,DP fin⟩))
  | exact DP ⟨.none,rfl,DP fin⟩
theorem yo(I:cf cx J H s.heap)(hJ:J[k]? =DJ a)(hk:H[k]? =DJ (.list vs))(rv:cb J s.heap v val)(hz:vs.length<bo):
  D2 cx.M A (call (.builtin "list.append") [.ref a,val]) (ak cx J s .none (H.set k (.list (vs++[v])))) E s:=by
 refine aW (I.rep.obj _ _ _ hk hJ) fun its n ho rl uu=>?_;have hlen:=rl.length;simp only[Ej]at hlen;rw[zy]at hz;have z2:=jJ;with_reducible refine append_at ho (fun h' hs e=> ?_) (DO uu (by decide))
 refine ak.set (tk:=s.toks) I hJ hs (fun S=>⟨_,_,e,?_,?_⟩) (by refine yF e ?_;simp) rfl
 ·refine yF JR ?_;exact (rl.mono S).append ⟨val,[],rfl,rv.mono S,rfl⟩
 ·refine yF (Ky _) ?_;exact bu (nat_lit 436822909979775820628742354166629825) tt hlen hz
theorem lN{T:String}(hT:T= "list" \/T= "tuple")(I:cf cx J H s.heap)(hJ:J[k]? =DJ a)(hk:H[k]? =DJ (.list vs))
  (hb:s.heap.get? b=DJ { cls:= .type T,data:= .seq its2 n2 }) (rw2:cE J s.heap ws its2.toList) (hz:vs.length+ws.length<bo):
  D2 cx.M A (call (.builtin "list.extend") [.ref a,.ref b]) (ak cx J s .none (H.set k (.list (vs++ws)))) E s:=by
 refine aW (I.rep.obj _ _ _ hk hJ) fun its n ho rl uu=>?_;have hlen:=rl.length;have hlen2:=rw2.length;simp only[Ej]at hlen hlen2;rw[zy]at hz;have z2:=jJ;have hdoor:¬(!its.isEmpty&&Ge (its.size+its2.size))=true:=by
  unfold Ge;refine yF (decide_eq_false (by with_unfolding_all exact Gh (wK (nat_lit 493848202298685622132360874012799034371263018909984900546) tt hlen2 hz ‹_› z2))) ?_;simp
 have Ta:s.TypeIs (.ref a) "list" :=⟨_,ho,rfl⟩;have fin:ak cx J s .none (H.set k (.list (vs++ws))) .none { s with heap:=s.heap.update a (Gu fun xs=>xs++its2) }:=by
  have e1:=EQ (Gu fun xs=>xs++its2) ho rfl;refine ak.set (tk:=s.toks) I hJ (E3 ..) (fun S=>⟨its++its2,_,e1,?_,?_⟩) (by refine yF e1 ?_;simp) rfl
  ·refine yF Hr ?_;exact (rl.mono S).append (rw2.mono S)
  ·refine yF HI ?_;exact kt (nat_lit 458042019654933076381940499047513443119200) tt hlen2 hz hlen
 rcases hT with rfl | rfl
 ·have W:=AutoSeq1.list_extend_list_list_0 a its n b its2 n2 hdoor (DO uu (by decide)) (wK (nat_lit 16498482643661573236947415780839037296730890158539148194497986) tt hlen2 hz ‹_› z2);with_reducible refine Ib GW Ta HF (Hz _ _) W ?_
  exact⟨ho,hb,fin⟩
 ·have W:=AutoSeq1.list_extend_list_tuple_0 a its n b its2 n2 hdoor (DO uu (by decide)) (wK (nat_lit 16498482643661573236947415780839037296730890158539148194497986) tt hlen2 hz ‹_› z2);with_reducible refine Ib GW Ta HF (Hz _ _) W ?_
  exact⟨ho,hb,fin⟩
theorem cE.dropLast:∀ {vs:List AV} {vals:List DW},cE J h vs vals->cE J h vs.dropLast vals.dropLast:=by
 intro vs;induction vs with
 | nil=>intro vals e;rewrite[e];exact rfl
 | cons x xs ih=>
  intro vals d;refine aW d fun y ys e r rs=>?_;subst e;cases xs with
  | nil=>replace rs:_=[]:=rs;subst rs;exact rfl
  | cons x2 xs=>
   have:=ih rs;refine aW rs fun y2 ys2 e2 uu uu=>?_;clear rs;subst e2;exact⟨y,_,rfl,r,this⟩
theorem BK(I:cf cx J H s.heap)(hJ:J[k]? =DJ a)(hk:H[k]? =DJ (.list vs))(h:vs.getLast? =DJ v):
  D2 cx.M A (call (.builtin "list.pop") [.ref a]) (ak cx J s v (H.set k (.list vs.dropLast))) E s:=by
 refine aW (I.rep.obj _ _ _ hk hJ) fun its n ho rl hz=>?_;have hlen:=rl.length;simp only[Ej]at hlen;have z2:=jJ;rw[List.getLast?_eq_getElem?]at h;refine af (rl.get h) fun val e r=>?_;have Ta:s.TypeIs (.ref a) "list" :=⟨_,ho,rfl⟩;have W:=MeetsSeq.list_pop_last a its n val (by refine yF hlen ?_;simpa using e) (DO hz (by decide));with_reducible refine Ib Is Ta PySem.F.entry_list_pop (PySem.F.args_list_pop_1 _) W ?_
 refine⟨ho,?_⟩;show ak cx J s v _ val { s with heap:=s.heap.update a (Gu fun xs=>xs.eraseIdxIfInBounds (its.size - 1)) };obtain⟨n',e1⟩:∃ n',(s.heap.update a (Gu fun xs=>xs.eraseIdxIfInBounds (its.size - 1))).get? a=DJ (listOf (its.eraseIdxIfInBounds (its.size - 1)) n'):=
  ⟨_,EQ (Gu fun xs=>xs.eraseIdxIfInBounds (its.size - 1)) ho rfl⟩
 have e2:(its.eraseIdxIfInBounds (its.size - 1)).toList=its.toList.dropLast:=by
  refine DK Array.toList_eraseIdxIfInBounds ?_;refine yF (jK _) ?_;refine yF Ej ?_;rfl
 refine ak.set (tk:=s.toks) I hJ (E3 ..) (fun S=>⟨_,_,e1,?_,?_⟩) (by refine yF e1 ?_;simp) r
 ·refine yF e2 ?_;exact (rl.mono S).dropLast
 ·have:=congrArg Kg e2;simp only[Ej,List.length_dropLast]at this;exact bS (nat_lit 436822909979467206529491584097470914) tt this (Nat.sub_le _ _) hz
theorem wA{vs:List AV}{k:Nat}{a:Addr}(I:cf cx J H s.heap)(hJ:J[k]? =DJ a)(hk:H[k]? =DJ (.list vs)):
  D2 cx.M A (call (.builtin "len") [.ref a]) (ak cx J s (.int vs.length) H) E s:=by
 refine aW (I.rep.obj _ _ _ hk hJ) fun its n ho rl hz=>?_;have hlen:=rl.length;simp only[Ej]at hlen;have L:s.heap.IsList a its:=⟨_,ho,rfl,_,rfl⟩;with_reducible refine len_list L (Ct hz) ?_
 refine yB hlen ?_;exact ak.pure I ⟨_,rfl⟩
theorem yp(I:cf cx J H s.heap)(ra:cb J s.heap (.tup vs) va):
  D2 cx.M A (call (.builtin "len") [va]) (ak cx J s (.int vs.length) H) E s:=by
 refine dH ra fun a its n z4 ho rl htz=>?_;clear ra;subst z4;have hlen:=rl.length;simp only[Ej]at hlen;have T:IsTup s.heap a its:=⟨_,ho,rfl,_,rfl⟩;with_reducible refine len_tuple T (Ct htz) ?_
 refine yB hlen ?_;exact ak.pure I ⟨_,rfl⟩
theorem AP{vs:List AV}{k:Nat}{a:Addr}(I:cf cx J H s.heap)(hJ:J[k]? =DJ a)(hk:H[k]? =DJ (.list vs)):
  D2 cx.M A (call (.type "list") [.ref a]) (ak cx J s (.ref H.length) (H++[.list vs])) E s:=by
 refine aW (I.rep.obj _ _ _ hk hJ) fun its n ho rl hz=>?_;have z2:=jJ;with_reducible refine call_list_seq a (.inl rfl) ho rfl rfl (fun h' c' hk' e=> ?_) (DO hz (by decide))
 exact ak.push (tk:=s.toks) I hk' fun S=>⟨its,c',e,rl.mono S,hz⟩
theorem zz{vs:List AV}{k:Nat}{a:Addr}(I:cf cx J H s.heap)(hJ:J[k]? =DJ a)(hk:H[k]? =DJ (.list vs)):
  D2 cx.M A (call (.type "tuple") [.ref a]) (ak cx J s (.tup vs) H) E s:=by
 refine aW (I.rep.obj _ _ _ hk hJ) fun its n ho rl hz=>?_;have z2:=jJ;have L:s.heap.IsList a its:=⟨_,ho,rfl,_,rfl⟩;with_reducible refine call_tuple_list L (fun h' hk'=> ?_) (DO hz (by decide))
 have kk:∀ b o,s.heap.get? b=DJ o->(h'.push { cls:= .type "tuple",data:= .seq its }).get? b=DJ o:=fun b o e=>D3 _ (hk' b o e);refine⟨⟨_,s.toks,rfl⟩,J,bV.of_keeps kk,I.keeps kk,h'.objs.size,its,0,rfl,Er _ rfl,rl.mono (bV.of_keeps (own:=bF) kk),hz⟩
end
end Mine.Internal
end
section
open PySem PySem.W PyProof.Rows
namespace Mine.Internal
section
variable {cx:Cx} {A:Around} {E:DW->DQ->Prop} {s:DQ} {J:Jm} {H:Hp}
theorem oS:∀ {vs:List AV} {vals:List DW} {is:List Int},cE J h vs vals->gA vs=DJ is->IntsAre vals is:=by
 intro vs;induction vs with
 | nil=>intro vals is e q;refine jA q ?_;rewrite[e];exact .nil
 | cons x vs ih=>
  intro vals is d q;refine aW d fun y ys e r rs=>?_;cases x with
  | int i=>
   refine af (Eu.mp (show (gA vs).map (i:: ·)=DJ _ from q)) ?_;clear q;intro is q z3;subst z3;refine aq r fun t z2=>?_;clear r;subst z2;refine yF e ?_;exact .cons i t (ih rs q)
  | _=>exact nO q
theorem BL{is:List Int}{k:Nat}(hC:f7 cx)(hh:A.handled=none)(I:cf cx J H s.heap)(hJ:J[k]? =DJ a)(hk:H[k]? =DJ (.list vs))(hi:gA vs=DJ is):
  D2 cx.M A (call (.builtin "sum") [.ref a]) (ak cx J s (.int is.sum) H) E s:=by
 refine aW (I.rep.obj _ _ _ hk hJ) fun its n ho rl hz=>?_;have L:s.heap.IsList a its:=⟨_,ho,rfl,_,rfl⟩;have hia:=oS rl hi;refine aq ((hia.allInts:AllInts its.toList.toArray).items) fun xs e=>?_;rw[Array.toArray_toList]at e;subst e;with_reducible refine sum_intListG hh L (fun h' tk t' hk'=> ?_)
 have e:preSum (numAt xs) xs.size=is.sum:=by
  have h1:=hia.numsOf;rw[nums_intItems]at h1;refine yB h1 ?_;refine DK (preSum_eq _ _) ?_;refine yF (Ie (by simp)) ?_;rfl
 refine yF e ?_;exact ak.keeps I hk' ⟨t',rfl⟩
theorem AQ{x y:Int}{va vb:DW}(hh:A.handled=none)(I:cf cx J H s.heap)(ra:cb J s.heap (.int x) va)(rb:cb J s.heap (.int y) vb):
  D2 cx.M A (call (.builtin "min") [va,vb]) (ak cx J s (.int (if y<x then y else x)) H) E s:=by
 refine aq ra fun t z2=>?_;clear ra;subst z2;refine aq rb fun u z2=>?_;clear rb;subst z2;with_reducible refine min_two_ints hh (fun h' tk hk'=> ?_)
 refine ak.keeps I hk' ?_;split
 ·exact⟨_,rfl⟩
 ·exact⟨_,rfl⟩
theorem mS(ns:List Int)(a:Int)(r:List Int)(e:ns=a::r):∀ k,k<ns.length->
  ns.getD (argBest (fun i j=>decide (ns.getD i 0<ns.getD j 0)) k) 0=(r.take k).foldl (fun m x=>if x<m then x else m) a
 | 0,_=>by subst e;rfl
 | k+1,h=>by
  have ih:=mS ns a r e k (bu (nat_lit 12129358071232) tt h);subst e;have hk:k<r.length:=by simpa using h
  refine yF (Hf hk) ?_;refine yF Ga ?_;refine yB ih ?_;simp only[F4,Hh];have e1:(a::r).getD (k+1) 0=r[k]:=by simp[hk]
  have ab:argBest (fun i j=>decide ((a::r).getD i 0<(a::r).getD j 0)) (k+1)=if decide ((a::r).getD (k+1) 0<(a::r).getD (argBest (fun i j=>decide ((a::r).getD i 0<(a::r).getD j 0)) k) 0)=true then k+1 else argBest (fun i j=>decide ((a::r).getD i 0<(a::r).getD j 0)) k:=rfl;refine yF ab ?_;by_cases q:(a::r).getD (k+1) 0<(a::r).getD (argBest (fun i j=>decide ((a::r).getD i 0<(a::r).getD j 0)) k) 0
  ·refine yF (decide_eq_true q) ?_;refine yF (if_pos rfl) ?_;refine yF (if_pos (by refine yB e1 ?_;exact q)) ?_;refine DK e1 ?_;rfl
  ·refine yF (decide_eq_false q) ?_;refine yF (if_neg (by simp)) ?_;refine yF (if_neg (by refine yB e1 ?_;exact q)) ?_;rfl
theorem AR{is:List Int}{m:Int}(hh:A.handled=none)(I:cf cx J H s.heap)(ra:cb J s.heap (.tup vs) va)(hi:gA vs=DJ is)(hm:vH is=DJ m):
  D2 cx.M A (call (.builtin "min") [va]) (ak cx J s (.int m) H) E s:=by
 refine dH ra fun a its n z4 ho rl htz=>?_;clear ra;subst z4;have T:s.heap.IsTuple a its:=⟨_,ho,rfl,_,rfl⟩;have hia:=oS rl hi;have hlen:is.length=its.size:=by have:=hia.length;simpa using this.symm
 cases is with
 | nil=>simp[vH]at hm
 | cons x r=>
  simp only[vH,D7]at hm;refine call_min_walk ?_;with_reducible refine HA T ?_
  have hne:a≠s.heap.objs.size:=D4 (FF ho);have hval:∀ (i:Nat) (v:DW),its[i]? =DJ v->∃ t,v= .int ((x::r).getD i 0) t:=fun i v hv=>
   IntsAre.int_at hia i v (by refine DK It ?_;exact hv)
  refine⟨s.heap.objs.size,[s.heap.objs.size,a],[s.heap.objs.size],its.size,_,_,(fun i j=>decide ((x::r).getD i 0<(x::r).getD j 0)),rfl,Walks.tuple (A:=A.in1) hh _ a hne its,?_,?_,?_,?_,?_⟩
  ·exact⟨⟨_,Er _ rfl,rfl,rfl⟩,⟨_,D3 _ ho,rfl,_,rfl⟩⟩
  ·intro b hb;refine yF (F2 _ _) ?_;rcases ER.mp hb with rfl | hb
   ·exact EA _
   ·refine yF (DT.mp hb) ?_;exact Eg (FF ho)
  ·refine yB hlen ?_;simp
  ·intro i j vi vj s' Q' E' hvi hvj hQ;refine aq (hval i vi hvi) fun t z2=>?_;subst z2;refine aq (hval j vj hvj) fun u z2=>?_;subst z2;exact PyProof.Rows.lt_int hQ
  ·intro v h' tk hv hk';refine aq (hval _ v hv) fun t z2=>?_;subst z2;have hb:=mS (x::r) x r rfl (its.size - 1) (by refine yB hlen ?_;simp);refine yF hb ?_;have:r.take (its.size - 1)=r:=Ie (by refine yB hlen ?_;simp);refine yF this ?_;refine yF hm ?_;refine ak.keeps (h:=h') I (fun b o e=>hk' b o ?_ (D3 _ e)) ⟨t,rfl⟩;intro q;rw[DT.mp q]at e;rw[cN]at e;exact nO e
theorem wB:∀ k:Fin 256,DN (toString ((k.val:Nat):Int))=⟨(fy k.val).toArray⟩:=by decide+kernel
theorem wC:∀ k:Fin 256,∀ c∈fy k.val,c<1114112:=by decide+kernel
theorem BM{i:Int}(I:cf cx J H s.heap)(ra:cb J s.heap (.int i) va)(h0:0<=i)(h1:i<qD):
  D2 cx.M A (call (.type "str") [va]) (ak cx J s (.str (fy i)) H) E s:=by
 refine aq ra fun t z2=>?_;clear ra;subst z2;have z:qD=256:=rfl;refine aq (HZ h0) fun k z2=>?_;subst z2;have hk:k<256:=(fun {n m}=>G9.mp) h1;have hlog:(k:Int).natAbs.log2<1920:=by
  rcases Jk k with q | q
  ·subst q;decide
  ·have:k.log2<8:=(Kh (Ep q)).mpr hk;simp only[Int.natAbs_natCast];exact Ea this (by decide)
 with_reducible refine P.str_of_int hlog ?_
 refine yF (wB ⟨k,hk⟩) ?_;exact ak.pure I ⟨wC ⟨k,hk⟩,_,rfl⟩
end
end Mine.Internal
end
section
open PySem PySem.W PyProof.Rows
namespace Mine.Internal
section
variable {cx:Cx} {A:Around} {E:DW->DQ->Prop} {s:DQ} {J:Jm} {H:Hp}
theorem pC:seqSlot? (.type "list") (dunderI "add")=pure (DJ (.builtin "list.__iadd__")):=PySem.seqSlot_of Hg.lookup (by decide+kernel)
theorem mZ(b:Bool):fillsInplaceSlot (.type "list") "add" b=pure false:=by
 unfold fillsInplaceSlot;show (typeLookup (.type "list") (dunderI "add") >>= fun fi=>pure (fi.isSome&& !isSeqSlot fi))=pure false;refine yF Hg.lookup ?_;have:isSeqSlot (DJ (.builtin "list.__iadd__"))=true:=by decide+kernel
 show (pure (true&& !isSeqSlot (DJ (.builtin "list.__iadd__"))):Sem Bool)=pure false;refine yF this ?_;rfl
theorem uA{xs ys:List AV}{i j:Nat}{a b:Addr}(I:cf cx J H s.heap)(hJa:J[i]? =DJ a)(hJb:J[j]? =DJ b)(hi:H[i]? =DJ (.list xs))(hj:H[j]? =DJ (.list ys))(hz:xs.length+ys.length<bo):
  D2 cx.M A (inplaceOp .Add (.ref a) (.ref b)) (ak cx J s (.ref i) (H.set i (.list (xs++ys)))) E s:=by
 refine aW (I.rep.obj _ _ _ hi hJa) fun ix nx ex rx uu=>?_;refine aW (I.rep.obj _ _ _ hj hJb) fun iy ny ey ry uu=>?_;have lx:=rx.length;have ly:=ry.length;simp only[Ej]at lx ly;rw[zy]at hz;have z2:=jJ;have Ta:s.TypeIs (.ref a) "list" :=⟨_,ex,rfl⟩;have Tb:s.TypeIs (.ref b) "list" :=⟨_,ey,rfl⟩;unfold inplaceOp;refine E0 ?_;refine DM (wpAny_typeOf Ta (DM (IK (mZ _) ?_)));show D2 _ A (if false=true then _ else _) _ E s;refine yF (if_neg EY) ?_;refine DM (wpAny_binaryOp1_none (nm:= "add") Ta Tb Kv ?_);refine DM (IK pC ?_);refine DM (Gd ?_);have hdoor:¬(!ix.isEmpty&&Ge (ix.size+iy.size))=true:=by
  unfold Ge;refine yF (decide_eq_false (by with_unfolding_all exact Gh (bS (nat_lit 14717823266716275009386871614417406078496325256642) tt ‹_› ‹_› z2))) ?_;simp
 have W:=AutoSeq1.list___iadd___list_list_0 a ix nx b iy ny hdoor (DO ‹_› (by decide)) (bS (nat_lit 491693098654129076017093038294026350878727322433242562) tt ‹_› ‹_› z2);refine Ib Hg Ta PySem.F.entry_list_iadd (PySem.F.args_list_iadd_2 _ _) W ⟨ex,ey,?_⟩;show ak cx J s _ _ (.ref a) { s with heap:=s.heap.update a (Gu fun xs=>xs++iy) };have e1:=EQ (Gu fun xs=>xs++iy) ex rfl;refine ak.set (tk:=s.toks) I hJa (E3 ..) (fun S=>⟨ix++iy,_,e1,?_,?_⟩) (by refine yF e1 ?_;simp) ⟨a,hJa,rfl⟩
 ·refine yF Hr ?_;exact (rx.mono S).append (ry.mono S)
 ·refine yF HI ?_;exact kt (nat_lit 458042019654933076381940499047513443119200) tt ly hz lx
theorem rI{o:Op}{a b v:AV}{va vb:DW}{H':Hp}(ho:o= .add\/o= .sub\/o= .bor)(I:cf cx J H s.heap)(ra:cb J s.heap a va)(rb:cb J s.heap b vb)(h:jl H o a b=DJ (v,H')):
  D2 cx.M A (inplaceOp (kR o) va vb) (ak cx J s v H') E s:=by
 cases a with
 | int x=>
  refine cU h ?_;clear h;rintro y rfl h;refine aq ra fun t z2=>?_;clear ra;subst z2;refine aq rb fun u z2=>?_;clear rb;subst z2;refine lY h ?_;clear h;intro r hr e;refine jP e ?_;with_reducible refine yk hr ho ?_
  exact fun t' tk=>ak.pure I ⟨t',rfl⟩
 | ref x=>
  refine gw h ?_;clear h;rintro y rfl h;refine dT h ?_;clear h;intro xs hx h;refine dT h ?_;clear h;intro ys hy h;refine ifs h ?_;clear h;intro z1 h;refine am z1 fun z40 q=>?_;clear z1;subst z40;refine jB h ?_;refine af ra fun ax hax z3=>?_;clear ra;subst z3;refine af rb fun ay hay z3=>?_;clear rb;subst z3;simp only[kR];with_reducible exact uA I hax hay hx hy q.2
 | _=>exact nO h
theorem jL(ns:List Int):∀ k,k<=ns.length->firstMet (fun i=>ns.getD i 0) k=(ns.take k).foldl (fun acc x=>if acc.any (· == x) then acc else acc++[x]) []
 | 0,_=>rfl
 | k+1,h=>by
  refine yF (firstMet_succ _ _) ?_;refine yF (jL ns k (bu (nat_lit 11029812889024) tt h)) ?_;refine yF (Hf (by norm_cast)) ?_;refine yF Ga ?_;simp only[F4,Hh];unfold step_dedup;have:ns.getD k 0=ns[k]:=by simp[OL,Em (show k<ns.length by norm_cast)]
  refine yF this ?_;rfl
theorem lO(ns:List Int):(firstMet (fun i=>ns.getD i 0) ns.length).length=fM ns:=by
 refine yF (jL ns _ (DV _)) ?_;refine yF Ef ?_;rfl
end
end Mine.Internal
end
section
open PySem PySem.W PyProof.Rows Builtin Builtin.ObjectAttr Builtin.Getset_descriptor
namespace Mine.Internal
structure lP(cx:Cx):Prop where
 get:plainGet cx.K cx.C "" =true
 dict:hasDictIn cx.K cx.C=true
 over:plainOver cx.K cx.C=true
 set:findIn cx.K (.ref cx.C) "__setattr__" =DJ (DJ (.builtin "object.__setattr__"))
 no:∀ n∈cj,findIn cx.K (.ref cx.C) ⟨n.toArray⟩=DJ none
section
variable {cx:Cx} {A:Around} {E:DW->DQ->Prop} {s:DQ} {J:Jm} {H:Hp}
theorem vm{a b:Nm}(h:(⟨a.toArray⟩:DL)=⟨b.toArray⟩):a=b:=by
 injection h with h;exact List.toArray_inj h
theorem cb.isStr(hk:bv k=true)(r:cb J h k key):key.isStr ⟨n.toArray⟩=decide (k= .str n):=by
 cases k with
 | str s=>
  refine am r fun uu z16=>?_;clear r;refine aq z16 fun t z72=>?_;clear z16;subst z72;by_cases q:s=n
  ·subst q;simp[Gq]
  ·have:¬ (⟨s.toArray⟩:DL)=⟨n.toArray⟩:=fun z=>q (vm z);simp[Gq,q,this]
 | int i=>(refine aq r fun t z2=>?_;clear r;subst z2);simp[Gq]
 | tup vs=>(refine lb r fun a its m z4 uu=>?_;clear r;subst z4);simp[Gq]
 | none=>exact fT hk
 | bool b=>exact fT hk
 | ref a=>exact fT hk
theorem AS:∀ {es:List (AV × AV)} {ds:List DictEntry},dX w J h es ds->br es (.str n)=DJ v->
  ∃ val,getL ⟨n.toArray⟩ ds=DJ (DJ val)/\cb J h v val:=by
 intro es ds d;induction d with
 | nil=>intro e;exact nO e
 | @cons k x _ key val _ _ hk rk rv hh r ih=>
  intro e;rewrite[dC]at e;unfold getL;refine yF List.find?_cons ?_;have hs:key.isStr ⟨n.toArray⟩=decide (k= .str n):=rk.isStr hk;by_cases q:k= .str n
  ·rw[if_pos q]at e;refine jA e ?_;simp only[hs,q,decide_true];exact⟨val,rfl,rv⟩
  ·rw[if_neg q]at e;refine af (ih e) fun val' g rr=>?_;simp only[hs,q,decide_false];refine⟨val',?_,rr⟩;unfold getL at g;split at g
   ·rename_i en he;refine yF he ?_;exact g
   ·split at g<;>cases g
theorem lQ:∀ {es:List (AV × AV)} {ds:List DictEntry},dX w J h es ds->ku es=true->∀ e∈ds,e.refKey=false:=by
 intro es ds d;induction d with
 | nil=>intro _ e m;cases m
 | @cons k _ _ key _ _ _ hk rk rv hh r ih=>
  intro o e m;unfold ku at o;rw[FD,Eb]at o;cases m with
  | head=>
   cases k with
   | str s=>(refine am rk fun uu z16=>?_;clear rk;refine aq z16 fun t z72=>?_;clear z16;subst z72);rfl
   | _=>cases o.1
  | tail _ m=>exact ih o.2 e m
set_option tactic.hygienic true in
theorem to(hx:cj.contains x.cps.toList=false):∀ {es:List (AV × AV)} {ds:List DictEntry},dX w J h es ds->ku es=true->getL x ds=DJ none:=by
 intro es ds D o;have hn:ds.find? (·.key.isStr x)=none:=by
  rewrite[List.find?_eq_none];induction D with
  | nil=>intro e m;cases m
  | cons hk rk rv hh r ih=>
   rename_i k v hs key val es ds;unfold ku at o;rw[FD,Eb]at o;intro e m;cases m with
   | head=>
    cases k with
    | str s=>
     refine am rk fun uu z16=>?_;clear rk;refine aq z16 fun t z72=>?_;clear z16;subst z72;have hc:cj.contains s=true:=o.1;intro z;have z:(⟨s.toArray⟩:DL)=x:=by simpa[Gq] using z
     rw[<- z]at hx;simp only[hc]at hx;exact tF hx
    | _=>cases o.1
   | tail _ m=>exact ih o.2 e m
 have hr:ds.any (·.refKey)=false:=by
  rewrite[HH];intro e m;refine yF (lQ D o e m) ?_;decide
 unfold getL;refine yF hn ?_;refine yF hr ?_;rfl
theorem yq(hn:∀ c∈n,c<1114112)(rv:cb J h v val):∀ {es:List (AV × AV)} {ds:List DictEntry},dX w J h es ds->
  dX w J h (dz es (.str n) v) (putL ⟨n.toArray⟩ (I9 w ⟨n.toArray⟩) (.str ⟨n.toArray⟩ t) val ds):=by
 intro es ds d;induction d with
 | nil=>exact .cons rfl ⟨hn,t,rfl⟩ rv rfl .nil
 | @cons k _ _ key _ _ _ hk rk rv' hh r ih=>
  rewrite[ke];unfold putL;have hs:key.isStr ⟨n.toArray⟩=decide (k= .str n):=rk.isStr hk;by_cases q:k= .str n
  ·simp only[hs,q,decide_true,if_true];subst q;exact .cons hk rk rv hh r
  ·simp only[hs,q,decide_false,if_false,EJ];exact .cons hk rk rv' hh ih
theorem yr:∀ {es:List (AV × AV)} {ds:List DictEntry},dX w J h es ds->(if ds.any (·.key.isStr ⟨n.toArray⟩) then es.length else es.length+1)=(dz es (.str n) v).length:=by
 intro es ds d;induction d with
 | nil=>rfl
 | @cons k _ _ key _ _ _ hk rk rv' hh r ih=>
  have hs:key.isStr ⟨n.toArray⟩=decide (k= .str n):=rk.isStr hk;rewrite[ke];refine yF Jc ?_;refine yF hs ?_;by_cases q:k= .str n
  ·simp[q]
  ·simp only[q,decide_false,I8,if_false,D6];refine yB ih ?_;exact wT _
theorem zA:∀ n∈cj,∀ c∈n,c<1114112:=by decide
theorem oT(h:cj.contains n=true):n∈cj:=by simpa using h
theorem cf.K(hC:f7 cx)(I:cf cx J H h):cx.K.In h:=hC.X.keeps I.base
theorem rJ{h:Heap}(I:cf cx J H h){k d:Nat}{a:Addr}(hJ:J[k]? =DJ a)(hk:H[k]? =DJ (.inst d)){es:List (AV × AV)}(hd:H[d]? =DJ (.dict es)):
  ∃ dx ds n,J[d]? =DJ dx/\h.get? dx=DJ (dictOf ds n)/\dX cx.w J h es ds/\(es.map (·.1)).Nodup/\n=es.length/\W.InstAt h a (instObj cx.C dx) cx.C (DJ (dictOf ds n)):=by
 refine af (I.rep.obj k _ a hk hJ) fun dx q ho=>?_;refine cp (I.rep.obj d _ dx hd q) fun ds n q2 D nd hne=>?_;exact⟨dx,ds,n,q,q2,D,nd,hne,⟨ho,rfl,rfl,q2⟩⟩
theorem cb.handed(r:cb J h v val):handedIn val=true:=by
 cases v with
 | none=>cases r;rfl
 | bool b=>cases r;rfl
 | int i=>(refine aq r fun t z2=>?_;clear r;subst z2);rfl
 | str s=>(refine am r fun uu z16=>?_;clear r;refine aq z16 fun t z72=>?_;clear z16;subst z72);rfl
 | tup vs=>(refine lb r fun a its n z4 uu=>?_;clear r;subst z4);rfl
 | ref k=>(refine af r fun a uu z3=>?_;clear r;subst z3);rfl
set_option tactic.hygienic true in
theorem qk{n:Nm}{v:AV}{o:AV}{va:DW}{expr:Bool}{Q:DW->DQ->Prop}(hC:f7 cx)(hK:lP cx)(I:cf cx J H s.heap)(ra:cb J s.heap o va)(h:jg H o n=DJ v)
  (hQ:∀ val tk,cb J s.heap v val->Q val { s with toks:=tk }):D2 cx.M A (getAttr va ⟨n.toArray⟩ expr) Q E s:=by
 unfold jg at h;split at h
 ·rename_i k;refine af ra fun a hJ z3=>?_;clear ra;subst z3;split at h
  ·rename_i d hk;split at h
   ·rename_i es hd;split at h
    ·rename_i hn;refine vE (rJ I hJ hk hd) fun dx ds m hJd hod D nd hne IA=>?_;refine af (AS D h) fun val g rv=>?_;exact get_value (I.K hC) IA (plainGet_of hK.get).1 (findObj_own hK.dict (hK.no n (oT hn)) rfl g) rv.handed (hQ _ _ rv)
    ·exact nO h
   ·exact nO h
  ·exact nO h
 ·exact nO h
theorem uB{b:Bool}{Q:Fin->DQ->Prop}(X:cx.K.In s.heap)(hK:lP cx)(IA:W.InstAt s.heap x (instObj cx.C dx) cx.C (DJ (dictOf ds n)))
  (hr:(!ds.any (·.key.isStr name)&&ds.any (·.refKey))=false) (hz:(putL name (Gl cx.w.params name) (.str name s.toks) v ds).length<=1000)
  (h:Q (.done (.ret .none)) { s with heap:=s.heap.update dx (IL name (Gl cx.w.params name) (.str name s.toks) v),toks:=s.toks+1 }):
  D2 cx.M A (storeInOwnDict (.ref x) (.ref cx.C) (.str name tk) name v b) Q E s:=by
 refine af (any_some hK.dict) fun cd hc hd'=>?_;obtain⟨hx,hcl,hn,D⟩:=IA;refine DM (DP (DM (DM (K2 hx (DM ((looks_clsIn X hc).here ?_))))));refine yF hd' ?_;refine DP (a:=DJ dx) (DM (DP (DM ?_)));unfold nsSet;refine DM (DM (H0 (DP (DM (wpAny_mkText (DM (K2 D ?_)))))));dsimp only;have c:(!ds.toArray.any (·.key.isStr name)&&ds.toArray.any (·.refKey))=false:=by
  refine yB HX ?_;refine yB HX ?_;exact hr
 refine yF (aRefKeyMayBeTheName_at _ _) ?_;refine yF c ?_;refine wpAny_updatePart D ?_;have D':(s.heap.update dx (IL name (Gl cx.w.params name) (.str name s.toks) v)).get? dx=DJ (dictOf (putL name (Gl cx.w.params name) (.str name s.toks) v ds) (putN name ds n)):=by
  rewrite[<- putName_dict];exact EQ _ D (by rewrite[putName_dict];rfl)
 refine DM (wpAny_lookBehind D' (pastItsLine_dict (by (refine yF FV ?_;refine yF sizeLine_eq ?_);exact DO hz (by decide))) ?_);exact DP h
end
end Mine.Internal
end
section
open PySem PySem.W PyProof.Rows Builtin Builtin.ObjectAttr Builtin.Getset_descriptor
namespace Mine.Internal
section
variable {cx:Cx} {A:Around} {E:DW->DQ->Prop} {s:DQ} {J:Jm} {H:Hp}
theorem mT(name:DL)(hsh:Int)(key v:DW):∀ ds:List DictEntry,(putL name hsh key v ds).length<=ds.length+1
 | []=>DV _
 | e::r=>by
  unfold putL;split
  ·simp
  ·simp only[D6];have:=mT name hsh key v r;exact bu (nat_lit 397186754211359148707723296) tt this
set_option tactic.hygienic true in
theorem ql{n:Nm}{v:AV}{o:AV}{va val:DW}{H':Hp}{Q:Unit->DQ->Prop}(hC:f7 cx)(hK:lP cx)(I:cf cx J H s.heap)(ra:cb J s.heap o va)(rv:cb J s.heap v val)(h:dI H o n v=DJ H')
  (hQ:∀ s',ak cx J s .none H' .none s'->Q () s'):D2 cx.M A (setAttr va ⟨n.toArray⟩ val) Q E s:=by
 unfold dI at h;split at h
 ·rename_i k;refine af ra fun a hJ z3=>?_;clear ra;subst z3;split at h
  ·rename_i d hk;split at h
   ·rename_i es hd;split at h
    ·rename_i hn;refine bY hn ?_;clear hn;intro hz hok hn;revert hQ;refine jA h ?_;intro hQ;refine vE (rJ I hJ hk hd) fun dx ds m hJd hod D nd hne IA=>?_;refine set_plain (I.K hC) IA hK.set ?_;refine osa_open (s:={ s with toks:=s.toks+1 }) (r:=none) (I.K hC) IA hK.over (by unfold takerIn;refine yF (hK.no n (oT hn)) ?_;rfl) fun b=> ?_;refine uB (s:={ s with toks:=s.toks+1 }) (I.K hC) hK IA ?_ ?_ ?_
     ·have:ds.any (·.refKey)=false:=by
       rewrite[HH];intro e m;refine yF (lQ D hok e m) ?_;decide
      refine yF this ?_;refine DK (Bool.and_false _) ?_;rfl
     ·have h1:=mT ⟨n.toArray⟩ (Gl cx.w.params ⟨n.toArray⟩) (.str ⟨n.toArray⟩ ({ s with toks:=s.toks+1 }:DQ).toks) val ds;have h2:=D.length;exact bS (nat_lit 427035441175406159185546205634) tt h1 h2 hz
     ·refine hQ _ ?_;have hsb:FE dx s.heap (s.heap.update dx (IL ⟨n.toArray⟩ (Gl cx.w.params ⟨n.toArray⟩) (.str ⟨n.toArray⟩ ({ s with toks:=s.toks+1 }:DQ).toks) val)):=E3 ..;have hg:=EQ (IL ⟨n.toArray⟩ (Gl cx.w.params ⟨n.toArray⟩) (.str ⟨n.toArray⟩ ({ s with toks:=s.toks+1 }:DQ).toks) val) hod (by rewrite[putName_dict];rfl);rw[putName_dict]at hg;exact ak.set I hJd hsb (fun S=>⟨_,_,hg,yq (zA n (oT hn)) (rv.mono S) (D.mono S),kU nd,by (refine yB (yr D) ?_;refine yF hne ?_);rfl⟩) (by refine yF hg ?_;simp) rfl
    ·exact nO h
   ·exact nO h
  ·exact nO h
 ·exact nO h
set_option tactic.hygienic true in
theorem tp{k:Nat}{a:Addr}{x:DL}{f:Addr}{pl:Sem Bool}{Q:DW × List DW->DQ->Prop}(hC:f7 cx)(hK:lP cx)(I:cf cx J H s.heap)(hJ:J[k]? =DJ a)(h:lZ H k=true)
  (hx:cj.contains x.cps.toList=false) (hf:findIn cx.K (.ref cx.C) x=DJ (DJ (.ref f))) (ht:isFn cx.K (.ref f)=true) (hQ:Q (.ref f,[.ref a]) s):
  D2 cx.M A (getMethod (.ref a) x pl) Q E s:=by
 unfold lZ at h;split at h
 ·rename_i d hk;split at h
  ·rename_i es hd;refine vE (rJ I hJ hk hd) fun dx ds m hJd hod D nd hne IA=>?_;refine method_fn (I.K hC) IA (plainGet_of hK.get).1 (plainGet_of hK.get).2 hf (beq_iff_eq.mp ht) ?_ hQ;show (lookIn x (dictOf ds m)).map _=_;rewrite[lookIn_dict];refine yF (to hx D h) ?_;rfl
  ·exact fT h
 ·exact fT h
theorem zB(I:cf cx J H s.heap):
  bV J (J++[s.heap.objs.size,s.heap.objs.size+1]) s.heap ((s.heap.push emptyDict).push (instObj cx.C s.heap.objs.size)) bF/\
  cf cx (J++[s.heap.objs.size,s.heap.objs.size+1]) (H++[.dict [],.inst H.length]) ((s.heap.push emptyDict).push (instObj cx.C s.heap.objs.size))/\
  (J++[s.heap.objs.size,s.heap.objs.size+1])[H.length+1]? =DJ (s.heap.objs.size+1):=by
 have k1:∀ b o,s.heap.get? b=DJ o->(s.heap.push emptyDict).get? b=DJ o:=fun b o e=>D3 _ e;have k2:∀ b o,(s.heap.push emptyDict).get? b=DJ o->((s.heap.push emptyDict).push (instObj cx.C s.heap.objs.size)).get? b=DJ o:=fun b o e=>D3 _ e;have hz:(s.heap.push emptyDict).objs.size=s.heap.objs.size+1:=F2 ..;have g1:(s.heap.push emptyDict).get? s.heap.objs.size=DJ emptyDict:=Er _ rfl;have g2:((s.heap.push emptyDict).push (instObj cx.C s.heap.objs.size)).get? (s.heap.objs.size+1)=DJ (instObj cx.C s.heap.objs.size):=by refine yB hz ?_;exact Er _ rfl
 have S1:bV J (J++[s.heap.objs.size]) s.heap (s.heap.push emptyDict) bF:=cf.newStp (cN _) k1;have I1:cf cx (J++[s.heap.objs.size]) (H++[.dict []]) (s.heap.push emptyDict):=I.push (cN _) I.size_ne k1 ⟨[],0,g1,.nil,HM,rfl⟩;have f2:(s.heap.push emptyDict).get? (s.heap.objs.size+1)=none:=by refine yB hz ?_;exact cN _
 have e:J++[s.heap.objs.size,s.heap.objs.size+1]=(J++[s.heap.objs.size])++[s.heap.objs.size+1]:=by simp
 have S2:bV (J++[s.heap.objs.size]) (J++[s.heap.objs.size]++[s.heap.objs.size+1]) (s.heap.push emptyDict) ((s.heap.push emptyDict).push (instObj cx.C s.heap.objs.size)) bF:=cf.newStp f2 k2;have n2:s.heap.objs.size+1≠sysModules:=by refine yB hz ?_;exact I1.size_ne
 have l0:(J++[s.heap.objs.size])[H.length]? =DJ s.heap.objs.size:=gx I.rep.len;have I2:=I1.push (o:= .inst H.length) (a:=s.heap.objs.size+1) f2 n2 k2 ⟨s.heap.objs.size,dP (E9 _ _) l0,g2⟩;have l1:=gx (a:=s.heap.objs.size+1) I1.rep.len;refine yF e ?_;refine⟨S1.trans S2,?_,?_⟩
 ·have:H++[AO.dict [],.inst H.length]=H++[.dict []]++[.inst H.length]:=by simp
  refine yF this ?_;exact I2
 ·simpa using l1
theorem BN{R:Result->DQ->Prop}(hC:f7 cx)(I:cf cx J H s.heap)(hm:makesIn cx.K cx.C=true)
  (hi:findIn cx.K (.ref cx.C) "__init__" =DJ (DJ (.ref fI))) (hf:typeIn cx.K (.ref fI)=DJ (.type "function"))
  (h:codeAny cx.M (A.under (.builtin "type.__call__" ⟨.ref cx.C::vals,[]⟩)) (.call (.ref fI) ⟨.ref (s.heap.objs.size+1)::vals,[]⟩) (InitBack (s.heap.objs.size+1) R)
   { s with heap:=(s.heap.push emptyDict).push (instObj cx.C s.heap.objs.size) }):
  codeAny cx.M A (.call (.ref cx.C) ⟨vals,[]⟩) R s:=by
 obtain⟨hh,g,d,t,os⟩:=s;exact make_core (makes_of (I.K hC) hm) (looks_findIn (I.K hC) hi) (fun self=>bind_fn (I.K hC) self hf) (.inl rfl) h
end
end Mine.Internal
end
section
open PySem PySem.W PyProof.Rows
namespace Mine.Internal
theorem oU:isSubtype (.type "tuple") (.type "set")=pure false:=by refine DK (K3 _ _) ?_;kernel_rfl
theorem jM:isSubtype (.type "tuple") (.type "frozenset")=pure false:=by refine DK (K3 _ _) ?_;kernel_rfl
section
variable {prog:Program} {w:World} {A:Around} {E:DW->DQ->Prop} {s:DQ}
set_option maxHeartbeats 3200000 in
theorem rK{ns:List Int}{n₀:Nat}{Q:DW->DQ->Prop}
  (hh:A.handled=none) (hol:s.heap.get? l=DJ (ba items n₀)) (hi:IntsAre items.toList ns) (hb:items.size+1<scanBound)
  (h:∀ (h':Heap) (tk:Nat),h'.SetOf (Jd prog w) s.heap.objs.size (fun k'=>(firstMet (fun i=>ns.getD i 0) items.size).any (· == k')) (firstMet (fun i=>ns.getD i 0) items.size).length->
   (∀ b o,b<s.heap.objs.size->s.heap.get? b=DJ o->h'.get? b=DJ o)->Q (.ref s.heap.objs.size) { s with heap:=h',toks:=tk }):
  D2 (model prog w) A (call (.type "set") [.ref l]) Q E s:=by
 refine eR Fz.mro fun c tl hmro=>?_;have hmade:=Fz.made;have hsub:=Fz.sub;refine Jr (Kz ?_);show D2 _ _ (callAny (.type "set") _) _ _ _;refine DP ⟨Code.quiet_builtin _ (by decide+kernel),codeAny_builtin PySem.F.entry_type_call ?_⟩;refine yF (Around.under_plain (weight_type_call_type "set" [.ref l] []) rfl) ?_;have h1:=Fz.notType;have h2:=Fz.canCreate;have hct:=PySem.F.typeCall_set_1 (.ref l);repeat (any_goals (first | assumption | wp_step))
 refine JT (code_set_new_1 (.ref l) (E:=E) (Q₁:=fun obj s₁=>∃ led:Bool,obj= .ref s.heap.objs.size/\s₁={ s with heap:=s.heap.push { cls:= .type "set",dict:=none,data:= .set #[] 0 (.fresh 0 0 led) } }) fun led=>⟨led,rfl,rfl⟩) fun r s₁ hr=> ?_;cases r with
 | error e=>exact hr
 | ok fl=>
  cases fl with
  | ret obj=>
   refine af hr fun led z2 z3=>?_;clear hr;subst z2;subst z3;have hS:(s.heap.push { cls:= .type "set",dict:=none,data:= .set #[] 0 (.fresh 0 0 led) }).get? s.heap.objs.size=DJ { cls:= .type "set",dict:=none,data:= .set #[] 0 (.fresh 0 0 led) }:=Er _ rfl;have hT:Shared.TypeIs { s with heap:=s.heap.push { cls:= .type "set",dict:=none,data:= .set #[] 0 (.fresh 0 0 led) } } (.ref s.heap.objs.size) "set" :=⟨_,hS,rfl⟩;have hli:=Fz.init.lookup;have hbi:=Fz.init.bind (.ref s.heap.objs.size);repeat (any_goals (first | assumption | wp_step))
   refine JT (codeAny_call_builtin (R:=wants (fun r s₂=>r= .none/\∃ h' tk,s₂={ s with heap:=h',toks:=tk }/\
     h'.SetOf (Jd prog w) s.heap.objs.size (fun k'=>(firstMet (fun i=>ns.getD i 0) items.size).any (· == k')) (firstMet (fun i=>ns.getD i 0) items.size).length/\
     (∀ b o,b<s.heap.objs.size->s.heap.get? b=DJ o->h'.get? b=DJ o)) E) Fz.init.plain PySem.F.entry_set_init (check_set_init_1 hT ?_)) fun r₂ s₂ hr₂=> ?_
   ·have hol':(s.heap.push { cls:= .type "set",dict:=none,data:= .set #[] 0 (.fresh 0 0 led) }).get? l=DJ (ba items n₀):=D3 _ hol;have hsls:=oU;have hslf:=jM;have hne:(Ob "tuple" == Ob "dict")=false:=by decide
    have hl1:(s.heap.push { cls:= .type "set",dict:=none,data:= .set #[] 0 (.fresh 0 0 led) }).IsTuple l items:=⟨_,hol',rfl,n₀,rfl⟩;unfold Builtin.«set.__init__» noKeywords Builtin.Frozenset.updateFrom;generalize hPI:pyIter=PI;wp_walk
    subst hPI;refine HA hl1 ?_;refine DM (wpAny_runValue ?_);have hlS:l<s.heap.objs.size:=FF hol;have hh3:A.in1.in1.in1.handled=none:=by simp[hh]
    have hneI:l≠(s.heap.push { cls:= .type "set",dict:=none,data:= .set #[] 0 (.fresh 0 0 led) }).objs.size:=by
     refine yF (F2 _ _) ?_;exact D4 (Eg hlS)
    have hSf:s.heap.objs.size∉[(s.heap.push { cls:= .type "set",dict:=none,data:= .set #[] 0 (.fresh 0 0 led) }).objs.size,l]:=by
     refine yF (F2 _ _) ?_;simp only[ER,DT,EW,or_false,not_or];exact⟨D4 (EA _),Ep hlS⟩
    have hval:∀ (i:Nat) (v:DW),items[i]? =DJ v->∃ t,v= .int ((fun i=>ns.getD i 0) i) t:=fun i v hv=>
     IntsAre.int_at hi i v (by refine DK It ?_;exact hv)
    refine codeAny_set_update_loopS ((Walks.tuple hh3 _ l hneI items).toS) s.heap.objs.size
     hSf (fun i=>ns.getD i 0) hval hb (items.size - 0) 0 _ (Eo (dm (nat_lit 10240) tt) (dm (nat_lit 10240) tt)) (Gz _)
     ⟨⟨_,Er _ rfl,rfl,rfl⟩,(hl1.push _)⟩ ?hS0 ?hR
    case hS0=>
     have hget:((s.heap.push { cls:= .type "set",dict:=none,data:= .set #[] 0 (.fresh 0 0 led) }).push { cls:= .type "tuple_iterator",data:= .fields #[.ref l,.int 0 0] }).get? s.heap.objs.size
       =DJ { cls:= .type "set",dict:=none,data:= .set #[] 0 (.fresh 0 0 led) }:=D3 _ hS
     exact SetOf_congr ((setObjOf_fresh (knd:=Jd prog w) led).setOf hget (by unfold scanBound;decide)) (fun _=>rfl) rfl
    case hR=>
     intro s' hm hS';obtain⟨h',g',d',tk',os'⟩:=s';have eg:g'=s.gens:=hm.gens;have ed:d'=s.drawn:=hm.drawn;have eo:os'=s.os:=hm.os;subst eg;subst ed;subst eo;show D2 _ _ _ _ _ _;refine DP ?_;show D2 _ _ (ret Ic) _ _ _;refine DP ⟨rfl,h',tk',rfl,hS',fun b o hb e=> ?_⟩;have hb1:b≠s.heap.objs.size:=D4 hb;have hb2:b≠(s.heap.push { cls:= .type "set",dict:=none,data:= .set #[] 0 (.fresh 0 0 led) }).objs.size:=by
      refine yF (F2 _ _) ?_;exact D4 (Eg hb)
     exact hm.heap b o (by simp only[ER,DT,EW,or_false,not_or];exact⟨hb1,hb2⟩) (D3 _ (D3 _ e))
   ·cases r₂ with
    | error e=>exact hr₂
    | ok fl₂=>
     cases fl₂ with
     | ret r=>
      refine am hr₂ fun z1 z16=>?_;clear hr₂;subst z1;refine aW z16 fun h' tk z73 hS' hk'=>?_;clear z16;subst z73;repeat (any_goals (first | assumption | wp_step))
      exact h _ _ hS' hk'
     | _=>exact hr₂.elim
  | _=>exact hr.elim
end
end Mine.Internal
end
section
open PySem PySem.W PyProof.Rows PySem.Calls
namespace Mine.Internal
noncomputable def kl(A:Around)(n:Nat):Prop:=A.handled=none/\A.depth+3 * n+12<recursionLimit/\A.units+20 * n+220<cLine
noncomputable def zC(A:Around)(n:Nat):Prop:=A.handled=none/\A.depth+3 * n+10<recursionLimit/\A.units+20 * n+210<cLine
theorem kl.c(h:kl A n):zC A n:=⟨h.1,by have:=h.2.1;exact bS (nat_lit 449097963183953537666496674713024) tt this,by have:=h.2.2;exact bS (nat_lit 470903577297652903028732560995226633664) tt this⟩
theorem kl.hh(h:kl A n):A.handled=none:=h.1
theorem kl.hu(h:kl A n):A.units+100<cLine:=by have:=h.2.2;exact bS (nat_lit 437327345071464739878061360576) tt this
noncomputable def cD(env:Env)(a:Addr):Prop:=a=env.locals\/∃ x,(x,a)∈env.cells
noncomputable def ib(env:Env)(h:Heap)(x:DL)(val:DW):Prop:=
 (env.kindOf x=DJ .local/\∃ mm,h.Ns env.locals mm/\mm x=DJ val)\/
 ((env.kindOf x=DJ .cell\/env.kindOf x=DJ .free)/\∃ c,env.cells.lookup x=DJ c/\h.IsCell c (DJ val))
noncomputable def rL(env:Env)(J:Jm)(h:Heap)(xs:List DL)(m:aZ):Prop:=
 ∀ (i:Nat) (x:DL) (v:AV),xs[i]? =DJ x->m[i]? =DJ (DJ v)->∃ val,cb J h v val/\ib env h x val
noncomputable def rM(env:Env)(x:DL):Prop:=env.kindOf x=DJ .cell\/env.kindOf x=DJ .free
noncomputable def rN(env:Env)(cs:List DL)(J:Jm)(h:Heap)(xs:List DL)(m:aZ):Prop:=
 ∀ (i:Nat) (x:DL) (v:AV),xs[i]? =DJ x->(cs≠[]->rM env x)->m[i]? =DJ (DJ v)->∃ val,cb J h v val/\ib env h x val
structure kY(cx:Cx)(env:Env)(fs cs:List DL)(m c:aZ)(J:Jm)(H:Hp)(h:Heap):Prop where
 inv:cf cx J H h
 fn:env.scope.kind= .function
 gl:env.globals=mainGlobals
 bi:env.builtins=builtinsNs
 out:∀ a,cD env a->a∉J/\h.get? a≠none/\cx.hb.get? a=none
 fv:rN env cs J h fs m
 cv:rL env J h cs c
 len:c.length=cs.length
 cel:∀ x,rM env x->∃ a,env.cells.lookup x=DJ a
theorem bV.kept(S:bV J J' h h' bF)(hJ:a∉J)(e:h.get? a=DJ o):h'.get? a=DJ o:=S.keep a o e hJ fun x=>x
theorem ib.step(S:bV J J' h h' bF)(out:∀ a,cD env a->a∉J)(v:ib env h x val):ib env h' x val:=by
 rcases v with⟨k,mm,⟨o,es,ep,e,r⟩,q⟩ | ⟨k,c,l,o,e,d⟩
 ·exact .inl ⟨k,mm,⟨o,es,ep,S.kept (out _ (.inl rfl)) e,r⟩,q⟩
 ·exact .inr ⟨k,c,l,o,S.kept (out _ (.inr ⟨x,mem_of_lookup l⟩)) e,d⟩
theorem rL.step(S:bV J J' h h' bF)(out:∀ a,cD env a->a∉J)(v:rL env J h xs m):rL env J' h' xs m:=
 fun i x w hx hm=>let ⟨val,r,q⟩:=v i x w hx hm;⟨val,r.mono S,q.step S out⟩
theorem rN.step(S:bV J J' h h' bF)(out:∀ a,cD env a->a∉J)(v:rN env cs J h xs m):rN env cs J' h' xs m:=
 fun i x w hx hf hm=>let ⟨val,r,q⟩:=v i x w hx hf hm;⟨val,r.mono S,q.step S out⟩
theorem kY.step(X:kY cx env fs cs m c J H h)(S:bV J J' h h' bF)(I:cf cx J' H' h'):kY cx env fs cs m c J' H' h' where
 inv:=I
 fn:=X.fn
 gl:=X.gl
 bi:=X.bi
 out:=fun a e=>⟨fun q=>(S.new a q).elim (X.out a e).1 (X.out a e).2.1,S.alive a (X.out a e).2.1,(X.out a e).2.2⟩
 fv:=X.fv.step S fun a e=>(X.out a e).1
 cv:=X.cv.step S fun a e=>(X.out a e).1
 len:=X.len
 cel:=X.cel
structure tq(cx:Cx)(fa:Nat->Addr)(rU je:List (DL × Nat))(lW:List (DL × Int))(m7:List (DL × DW)):Prop where
 ok:f7 cx
 cls:lP cx
 fns:∀ x f,rU.lookup x=DJ f->cx.mg x=DJ (.ref (fa f))/\keepIn cx.K (.ref (fa f))=true
 meths:∀ x f,je.lookup x=DJ f->cj.contains x.cps.toList=false/\findIn cx.K (.ref cx.C) x=DJ (DJ (.ref (fa f)))/\isFn cx.K (.ref (fa f))=true/\keepIn cx.K (.ref (fa f))=true
 nums:∀ x i,lW.lookup x=DJ i->∃ t,cx.mg x=DJ (.int i t)
 bis:∀ x v,m7.lookup x=DJ v->cx.mg x=none/\bootBuiltins x=DJ v/\x≠ "__name__"
 net:cx.mg "Netlist" =DJ (.ref cx.C)/\keepIn cx.K (.ref cx.C)=true
 makes:makesIn cx.K cx.C=true
 init:findIn cx.K (.ref cx.C) "__init__" =DJ (DJ (.ref (fa 0)))/\typeIn cx.K (.ref (fa 0))=DJ (.type "function")
noncomputable def iq(cx:Cx)(fa:Nat->Addr)(cl:aR)(n:Nat):Prop:=
 ∀ (f:Nat) (vs:List AV) (H:Hp) (v:AV) (H':Hp),cl f vs H=DJ (v,H')->∀ (A:Around) (s:DQ) (J:Jm) (vals:List DW) (R:Result->DQ->Prop),zC A n->cf cx J H s.heap->cE J s.heap vs vals->
  (∀ val s',ak cx J s v H' val s'->R (.ok (.ret val)) s')->codeAny cx.M A (.call (.ref (fa f)) ⟨vals,[]⟩) R s
noncomputable def SE(cx:Cx)(cl:aR)(n:Nat)(sc:Scope)(fs cs:List DL)(e:E)(x:Expr):Prop:=
 ∀ (env:Env) (A:Around) (s:DQ) (J:Jm) (H:Hp) (m c:aZ) (v:AV) (H':Hp) (Q:DW->DQ->Prop) (E':DW->DQ->Prop),env.scope=sc->kl A n->kY cx env fs cs m c J H s.heap->
  aC cl e m c H=DJ (v,H')->(∀ val s',ak cx J s v H' val s'->Q val s')->D2 cx.M A (eval x env) Q E' s
noncomputable def ST(cx:Cx)(cl:aR)(n:Nat)(sc:Scope)(fs cs:List DL)(e:E)(x:Expr):Prop:=
 ∀ (env:Env) (A:Around) (s:DQ) (J:Jm) (H:Hp) (m c:aZ) (v:AV) (H':Hp) (b:Bool) (Q:Bool->DQ->Prop) (E':DW->DQ->Prop),env.scope=sc->kl A n->kY cx env fs cs m c J H s.heap->
  aC cl e m c H=DJ (v,H')->truthy H' v=DJ b->(∀ s',ak cx J s .none H' .none s'->Q b s')->D2 cx.M A (isTrue x env (eval x env)) Q E' s
noncomputable def vp(cx:Cx)(J:Jm)(s:DQ)(vs:List AV)(H':Hp)(vals:List DW)(s':DQ):Prop:=
 (∃ h tk,s'={ s with heap:=h,toks:=tk })/\∃ J',bV J J' s.heap s'.heap bF/\cf cx J' H' s'.heap/\cE J' s'.heap vs vals
noncomputable def SL(cx:Cx)(cl:aR)(n:Nat)(sc:Scope)(fs cs:List DL)(es:List E)(xs:List Expr):Prop:=
 ∀ (env:Env) (A:Around) (s:DQ) (J:Jm) (H:Hp) (m c:aZ) (vs:List AV) (H':Hp) (pos:Pos) (Q:List DW->DQ->Prop) (E':DW->DQ->Prop),env.scope=sc->kl A n->kY cx env fs cs m c J H s.heap->
  iP cl es m c H=DJ (vs,H')->(∀ vals s',vp cx J s vs H' vals s'->Q vals s')->D2 cx.M A (spliced (backTo pos (starEach xs env))) Q E' s
section
variable {cx:Cx} {cl:aR} {n:Nat} {sc:Scope} {fs cs:List DL} {A:Around} {E':DW->DQ->Prop} {s:DQ} {J:Jm} {H:Hp} {env:Env} {m c:aZ}
theorem kY.globals(hC:f7 cx)(X:kY cx env fs cs m c J H h):h.Ns env.globals cx.mg:=by refine yF X.gl ?_;exact hC.T.g.keeps X.inv.base
theorem kY.builtins(hC:f7 cx)(X:kY cx env fs cs m c J H h):h.Ns env.builtins cx.mb:=by refine yF X.bi ?_;exact hC.T.b.keeps X.inv.base
theorem oV(hC:f7 cx){Q:DW->DQ->Prop}(X:kY cx env fs cs m c J H s.heap)(hx:env.kindOf x=DJ .globalImplicit)(hv:cx.mg x=DJ v)(hd:(x == ("__debug__" :DL))=false)(h:Q v s):
  D2 cx.M A (eval (.Name x pos) env) Q E' s:=by
 with_reducible refine Name_function_global X.fn hx ?_ hd
 exact loadGlobal_global (X.globals hC) hv h
theorem j7(hC:f7 cx){Q:DW->DQ->Prop}(X:kY cx env fs cs m c J H s.heap)(hx:env.kindOf x=DJ .globalImplicit)(hm:cx.mg x=none)(hv:bootBuiltins x=DJ v)(hn:x≠ "__name__")(hd:(x == ("__debug__" :DL))=false)(h:Q v s):
  D2 cx.M A (eval (.Name x pos) env) Q E' s:=by
 with_reducible refine Name_function_global X.fn hx ?_ hd
 exact loadGlobal_builtin (X.globals hC) hm (X.builtins hC) ((hC.T.builtins x hn).trans hv) h
theorem zX{Q:DW->DQ->Prop}(hk:env.scope.kind= .function)(hv:ib env s.heap x v)(hd:(x == ("__debug__" :DL))=false)(hd2:(x == ("__classdict__" :DL))=false)(h:Q v s):
  D2 cx.M A (eval (.Name x pos) env) Q E' s:=by
 refine wpAny_Name ?_ hd;rcases hv with⟨k,mm,N,q⟩ | ⟨k | k,c,l,ic⟩
 ·exact IN hk k N q h
 ·exact IX hk k l ic h
 ·exact IY hk k l ic h hd2
theorem SE.then{a b:E}{xa xb:Expr}(ha:SE cx cl n sc fs cs a xa)(hb:SE cx cl n sc fs cs b xb){x y:AV}{H₁ H₂:Hp}{Q:DW->DW->DQ->Prop}(hs:env.scope=sc)(hA:kl A n)(X:kY cx env fs cs m c J H s.heap)
  (e1:aC cl a m c H=DJ (x,H₁)) (e2:aC cl b m c H₁=DJ (y,H₂))
  (h:∀ va vb s' J',(∃ h tk,s'={ s with heap:=h,toks:=tk })->bV J J' s.heap s'.heap bF->kY cx env fs cs m c J' H₂ s'.heap->cb J' s'.heap x va->cb J' s'.heap y vb->Q va vb s'):
  D2 cx.M A (eval xa env) (fun va s₁=>D2 cx.M A (eval xb env) (Q va) E' s₁) E' s:=by
 refine ha env A s J H m c x H₁ _ _ hs hA X e1 fun va s₁ p₁=> ?_;refine am p₁ fun sm₁ z16=>?_;clear p₁;refine aM z16 fun J₁ S₁ I₁ r₁=>?_;clear z16;refine hb env A s₁ J₁ H₁ m c y H₂ _ _ hs hA (X.step S₁ I₁) e2 fun vb s₂ p₂=> ?_;refine am p₂ fun sm₂ z16=>?_;clear p₂;refine aM z16 fun J₂ S₂ I₂ r₂=>?_;clear z16;exact h va vb s₂ J₂ (ae sm₁ sm₂) (S₁.trans S₂) ((X.step S₁ I₁).step S₂ I₂) (r₁.mono S₂) r₂
theorem SE.one(ha:SE cx cl n sc fs cs a xa){Q:DW->DQ->Prop}(hs:env.scope=sc)(hA:kl A n)(X:kY cx env fs cs m c J H s.heap)(e1:aC cl a m c H=DJ (x,H₁))
  (h:∀ va s' J',(∃ h tk,s'={ s with heap:=h,toks:=tk })->bV J J' s.heap s'.heap bF->kY cx env fs cs m c J' H₁ s'.heap->cb J' s'.heap x va->Q va s'):
  D2 cx.M A (eval xa env) Q E' s:=by
 refine ha env A s J H m c x H₁ _ _ hs hA X e1 fun va s₁ p₁=> ?_;refine am p₁ fun sm₁ z16=>?_;clear p₁;refine aM z16 fun J₁ S₁ I₁ r₁=>?_;clear z16;exact h va s₁ J₁ sm₁ S₁ (X.step S₁ I₁) r₁
theorem SL.nil:SL cx cl n sc fs cs [] []:=by
 intro env A s J H m c vs H' pos Q E' hs hA X e h;revert h;refine jB e ?_;intro h;exact KC (h [] s ⟨⟨_,_,rfl⟩,J,bV.refl _ _ _,X.inv,rfl⟩)
noncomputable def cm(e:Expr):Bool:= !Nat.beq e.ctorIdx 22
theorem ja(h:cm e=true):starEach (e::rest) env=(false,eval e env)::starEach rest env:=by
 cases e<;>first | rfl | exact fT h
theorem SL.cons{e:E}{x:Expr}{es:List E}{xs:List Expr}(h1:SE cx cl n sc fs cs e x)(h2:SL cx cl n sc fs cs es xs)(hx:cm x=true):SL cx cl n sc fs cs (e::es) (x::xs):=by
 intro env A s J H m c vs H' pos Q E' hs hA X e0 h;refine bN e0 ?_;intro v H1 e1 e0;refine bN e0 ?_;intro vs' H2 e2 e3;cases e3;refine J9 ?_ (ja hx);refine h1.one hs hA X e1 fun va s₁ J₁ sm₁ S₁ X₁ r₁=> ?_;refine h2 env A s₁ J₁ H1 m c vs' H' pos _ _ hs hA X₁ e2 fun vals s₂ p=> ?_;refine am p fun sm₂ z16=>?_;clear p;refine aM z16 fun J₂ S₂ I₂ r₂=>?_;clear z16;exact h _ _ ⟨ae sm₁ sm₂,J₂,S₁.trans S₂,I₂,va,vals,rfl,r₁.mono S₂,r₂⟩
theorem jb:∀ {es:List E} {m c:aZ} {H:Hp} {vs:List AV} {H':Hp},iP cl es m c H=DJ (vs,H')->vs.length=es.length
 | [],_,_,_,_,_,e=>by (refine jB e ?_);rfl
 | e::es,_,_,_,_,_,e0=>by
  refine bN e0 ?_;intro v H1 e1 e0;refine bN e0 ?_;intro vs' H2 e2 e3;refine jB e3 ?_;simp[jb e2]
theorem SE.bin(ha:SE cx cl n sc fs cs a xa)(hb:SE cx cl n sc fs cs b xb):SE cx cl n sc fs cs (.bin o a b) (.BinOp xa (kR o) xb pos):=by
 intro env A s J H m c v H' Q E' hs hA X e h;refine bN e ?_;intro x H1 e1 e;refine bN e ?_;intro y H2 e2 e3;try dsimp only at e3
 with_reducible refine wpAny_BinOp ?_
 refine ha.then hb hs hA X e1 e2 fun va vb s' J' sm S X' ra rb=> ?_;refine Fm (AM X'.inv ra rb e3) (fun val s'' p=>h val s'' (ak.trans sm S p)) fun _ _ z=>z
theorem SE.tup(hl:SL cx cl n sc fs cs es xs)(hz:es.length<=100):SE cx cl n sc fs cs (.tup es) (.Tuple xs k pos):=by
 intro env A s J H m c v H' Q E' hs hA X e h;refine bN e ?_;intro vs H1 e1 e3;revert e h;refine jB e3 ?_;intro e h;with_reducible refine wpAny_Tuple ?_
 refine hl env A s J H m c vs _ pos _ _ hs hA X e1 fun vals s' p=> ?_;refine am p fun sm z16=>?_;clear p;refine aM z16 fun J' S I r=>?_;clear z16;have h1:=r.length;have h2:=jb e1;have z2:=jJ;refine⟨kt (nat_lit 416697114400727589919814927681865153) tt h1 h2 hz z2,h _ _ ?_⟩;have kk:∀ b o,s'.heap.get? b=DJ o->(s'.heap.push { cls:= .type "tuple",data:= .seq vals.toArray }).get? b=DJ o:=fun b o e=>D3 _ e;refine ak.trans sm S ⟨⟨_,s'.toks,rfl⟩,J',bV.of_keeps kk,I.keeps kk,s'.heap.objs.size,vals.toArray,0,rfl,Er _ rfl,?_,?_⟩
 ·exact r.mono (bV.of_keeps (own:=bF) kk)
 ·refine yF FV ?_;exact bS (nat_lit 416586790065257269479321786818) tt h1 h2 hz
theorem SE.list(hl:SL cx cl n sc fs cs es xs)(hz:es.length<=100):SE cx cl n sc fs cs (.list es) (.List xs pos):=by
 intro env A s J H m c v H' Q E' hs hA X e h;refine bN e ?_;intro vs H1 e1 e3;revert e h;refine jB e3 ?_;intro e h;with_reducible refine wpAny_List ?_
 refine hl env A s J H m c vs _ pos _ _ hs hA X e1 fun vals s' p=> ?_;refine am p fun sm z16=>?_;clear p;refine aM z16 fun J' S I r=>?_;clear z16;have h1:=r.length;have h2:=jb e1;have z2:=jJ;refine⟨kt (nat_lit 416697114400727589919814927681865153) tt h1 h2 hz z2,h _ _ ?_⟩;have kk:∀ b o,s'.heap.get? b=DJ o->(s'.heap.push { cls:= .type "list",data:= .seq vals.toArray }).get? b=DJ o:=fun b o e=>D3 _ e;refine ak.trans sm S (ak.push (tk:=s'.toks) I kk fun S'=>⟨vals.toArray,0,Er _ rfl,?_,?_⟩)
 ·exact r.mono S'
 ·refine yF FV ?_;exact bS (nat_lit 416586790065257269479321786818) tt h1 h2 hz
noncomputable def vr:AV->Const->Bool
 | .none,.none=>true
 | .bool a,.bool b=>a == b
 | .int a,.int b=>a == b
 | .str a,.str b=>decide (b.cps.toList=a)&&a.all (· <1114112)
 | _,_=>false
set_option tactic.hygienic true in
theorem SE.const(hk:vr v₀ k=true):SE cx cl n sc fs cs (.const v₀) (.Constant k j pos):=by
 intro env A s J H m c v H' Q E' hs hA X e h;revert h;refine jB e ?_;intro h;cases v₀<;>cases k<;>first | exact fT hk;done | skip
 ·with_reducible refine wpAny_Constant_none ?_
  exact h _ _ (ak.pure (tk:=s.toks) X.inv rfl)
 ·obtain rfl:=beq_iff_eq.mp hk;with_reducible refine wpAny_Constant_bool ?_
  exact h _ _ (ak.pure (tk:=s.toks) X.inv rfl)
 ·obtain rfl:=beq_iff_eq.mp hk;with_reducible refine HB ?_
  exact h _ _ (ak.pure X.inv ⟨_,rfl⟩)
 ·rename_i a b;refine am ((Eb _ _).mp hk) fun q hc=>?_;replace q:=of_decide_eq_true q;simp only[decide_eq_true_eq,Fc]at hc;have hb:b=⟨a.toArray⟩:=by cases b;simp only at q;subst q;simp
  subst hb;with_reducible refine wpAny_Constant_str ?_
  exact h _ _ (ak.pure X.inv ⟨hc,_,rfl⟩)
end
end Mine.Internal
end
section
open PySem PySem.W PyProof.Rows PySem.Calls
namespace Mine.Internal
theorem dX.ext(p:J <+: J')(t:∀ a its n,h.get? a=DJ (ba its n)->h'.get? a=DJ (ba its n)):∀ {es ds},dX w J h es ds->dX w J' h' es ds:=by
 intro es ds d;induction d with
 | nil=>exact .nil
 | cons hk rk rv hh r ih=>exact .cons hk (rk.ext p t) (rv.ext p t) hh ih
theorem jG.ext{w:World}{C:Addr}{J J':Jm}{h h':Heap}(p:J <+: J')(t:∀ a its n,h.get? a=DJ (ba its n)->h'.get? a=DJ (ba its n)){a:Addr}{o:AO}(e:∀ ob,h.get? a=DJ ob->h'.get? a=DJ ob)(r:jG w C J h a o):jG w C J' h' a o:=by
 cases o with
 | list vs=>(refine aW r fun its n q rl z=>?_;clear r);exact⟨its,n,e _ q,rl.ext p t,z⟩
 | dict es=>(refine aW r fun ds n q rl nd=>?_;clear r);exact⟨ds,n,e _ q,rl.ext p t,nd⟩
 | inst d=>(refine af r fun dx q rl=>?_;clear r);exact⟨dx,dP p q,e _ rl⟩
theorem cf.adopt(I:cf cx J H h)(hJ:a∉J)(hb:cx.hb.get? a=none)(hsy:a≠sysModules)
  (r:jG cx.w cx.C (J++[a]) h a o):cf cx (J++[a]) (H++[o]) h:=by
 have P:J <+: J++[a]:=E9 _ _;refine⟨⟨by simp[I.rep.len],?_,fun i o' b e q=> ?_⟩,I.base,fun b hb'=> ?_,I.stat,fun b hb'=>(DZ.mp hb').elim (I.sys b) (fun q=>by refine yF (DT.mp q) ?_;exact hsy)⟩
 ·refine Fa.mpr ⟨I.rep.nodup,by simp,?_⟩;intro x hx y hy;refine yF (DT.mp hy) ?_;rintro rfl
  exact hJ hx
 ·by_cases hi:i<H.length
  ·rw[Eh hi]at e;have hi':i<J.length:=by refine yF I.rep.len ?_;exact hi
   rw[Eh hi']at q;exact (I.rep.obj i o' b e q).ext P (fun _ _ _ z=>z) (fun ob z=>z)
  ·have hlt:=(DS.mp e).1;rw[DU,Ex]at hlt;have hii:i=H.length:=Eo (bu (nat_lit 11029854074912) tt hlt) (bu (nat_lit 336603168) tt (E6 hi));subst hii;rw[D9 (DV _),EH]at e;rw[<- I.rep.len,D9 (DV _),EH]at q;simp only[EL,D7]at e q;subst e q;exact r
 ·rcases DZ.mp hb' with q | q
  ·exact I.above b q
  ·refine yF (DT.mp q) ?_;exact hb
theorem cf.own{cx:Cx}{J:Jm}{H:Hp}{h h':Heap}{a:Addr}(I:cf cx J H h)(hs:FE a h h')(hJ:a∉J)(hb:cx.hb.get? a=none)(ht:∀ its n,h.get? a≠DJ (ba its n)):cf cx J H h':=by
 have T:∀ b its n,h.get? b=DJ (ba its n)->h'.get? b=DJ (ba its n):=fun b its n e=>(hs.2 b fun q=>ht its n (q ▸ e)).trans e;refine⟨⟨I.rep.len,I.rep.nodup,fun i o b e q=> ?_⟩,fun b o e=>(hs.2 b fun q=>by rw[<- q,e]at hb;exact oN hb).trans (I.base b o e),I.above,I.stat,I.sys⟩;exact (I.rep.obj i o b e q).ext EB T fun ob z=>(hs.2 b fun w=>hJ (w ▸ dy q)).trans z
theorem dQ(I:cf cx J H h)(e:h.get? a=none):cx.hb.get? a=none:=by
 cases q:cx.hb.get? a with
 | none=>rfl
 | some o=>rw[I.base a o q]at e;cases e
theorem cf.above_sys(I:cf cx J H h)(ha:h.objs.size<=a):a≠sysModules:=by
 intro e;cases q:cx.hb.get? cStatics with
 | none=>exact I.stat q
 | some o=>
  have h1:=FF (I.base _ _ q);rw[e]at ha;exact absurd (Ea h1 ha) (by decide)
section
variable {cx:Cx} {cl:aR} {n:Nat} {sc:Scope} {fs cs:List DL} {A:Around} {E':DW->DQ->Prop} {s:DQ} {J:Jm} {H:Hp} {env:Env} {m c:aZ}
theorem ak.adopt{s':DQ}{J':Jm}{H':Hp}{a:Addr}{o:AO}(sm:∃ h tk,s'={ s with heap:=h,toks:=tk })(S:bV J J' s.heap s'.heap bF)(I:cf cx J' H' s'.heap)(hJ:a∉J')(ha:s.heap.get? a=none)(hb:cx.hb.get? a=none)(hsy:a≠sysModules)
  (r:jG cx.w cx.C (J'++[a]) s'.heap a o):ak cx J s (.ref H'.length) (H'++[o]) (.ref a) s':=by
 refine⟨sm,J'++[a],⟨S.pre.trans (E9 _ _),fun b hb'=> ?_,fun b o e hJ' ho=>S.keep b o e hJ' ho,S.tup,S.alive⟩,I.adopt hJ hb hsy r,a,gx I.rep.len,rfl⟩;rcases DZ.mp hb' with q | q
 ·exact S.new b q
 ·refine yF (DT.mp q) ?_;exact .inr ha
theorem SE.var{i:Nat}{id:DL}{pos:Pos}{fr:Bool}(hi:(if fr || cs.isEmpty then fs else cs)[i]? =DJ id)(hd:(id == ("__debug__" :DL))=false)(hd2:(id == ("__classdict__" :DL))=false)(hfr:fr=true->sc.names.lookup id=DJ .cell\/sc.names.lookup id=DJ .free):
  SE cx cl n sc fs cs (if fr then .free i else .loc i) (.Name id pos):=by
 intro env A s J H m c v H' Q E' hs hA X e h;subst hs;have key:∃ val,cb J s.heap v val/\ib env s.heap id val/\H'=H:=by
  have hlen:=X.len;cases fr with
  | true=>
   simp only[L4,if_true]at hi e;refine am (qJ e) fun q z2=>?_;subst z2;refine af (X.fv i id _ hi (fun _=>hfr rfl) q) fun val r q2=>?_;exact⟨val,r,q2,rfl⟩
  | false=>
   simp only[I8,EJ,if_false]at hi e;refine am (qJ e) fun q z2=>?_;subst z2
   ·
    by_cases z:cs.isEmpty
    ·rw[if_pos z]at hi;have zc:c.isEmpty=true:=by
      rw[GN]at z ⊢;subst z;exact Gb.mp hlen
     rw[if_pos zc]at q;refine af (X.fv i id _ hi (fun w=>absurd (GN.mp z) w) q) fun val r q2=>?_;exact⟨val,r,q2,rfl⟩
    ·rw[if_neg z]at hi;have zc:¬ c.isEmpty=true:=by
      intro y;rw[GN]at y;subst y;apply z;rewrite[GN];exact Gb.mp hlen.symm
     rw[if_neg zc]at q;refine af (X.cv i id _ hi q) fun val r q2=>?_;exact⟨val,r,q2,rfl⟩
 refine aM key fun val r q z4=>?_;clear key;subst z4;exact zX X.fn q hd hd2 (h val s (ak.pure (tk:=s.toks) X.inv r))
theorem SE.gInt(hC:f7 cx){i:Int}{id:DL}{pos:Pos}{t:Tok}(hk:sc.names.lookup id=DJ .globalImplicit)(hv:cx.mg id=DJ (.int i t))(hd:(id == ("__debug__" :DL))=false):SE cx cl n sc fs cs (.const (.int i)) (.Name id pos):=by
 intro env A s J H m c v H' Q E' hs hA X e h;revert h;refine jB e ?_;intro h;subst hs;exact oV hC X hk hv hd (h _ s (ak.pure (tk:=s.toks) X.inv ⟨t,rfl⟩))
theorem SE.neg(ha:SE cx cl n sc fs cs a xa):SE cx cl n sc fs cs (.neg a) (.UnaryOp .USub xa pos):=by
 intro env A s J H m c v H' Q E' hs hA X e h;refine bN e ?_;intro x H1 e1 e3;dsimp only at e3;with_reducible refine LB ?_
 refine ha.one hs hA X e1 fun va s' J' sm S X' ra=> ?_;cases x with
 | int=>
  revert h;refine jB e3 ?_;intro h;refine aq ra fun t z2=>?_;clear ra;subst z2;with_reducible refine P.neg_int ?_
  exact h _ _ (ak.trans sm S (ak.pure X'.inv ⟨_,rfl⟩))
 | _=>exact nO e3
theorem SE.not(ha:SE cx cl n sc fs cs a xa):SE cx cl n sc fs cs (.not a) (.UnaryOp .Not xa pos):=by
 intro env A s J H m c v H' Q E' hs hA X e h;refine bN e ?_;intro x H1 e1 e;refine ka e ?_;intro b e2 e3;revert h;refine jB e3 ?_;intro h;with_reducible refine LB ?_
 refine ha.one hs hA X e1 fun va s' J' sm S X' ra=> ?_;unfold unaryOp;refine E0 ?_;show D2 cx.M A (do return .bool (!(<- Ht va))) Q E' s';refine DM (oJ X'.inv ra e2 fun tk=>DP ?_);exact h _ _ (ak.trans sm S (ak.pure X'.inv rfl))
theorem ST.not(ha:ST cx cl n sc fs cs a xa):ST cx cl n sc fs cs (.not a) (.UnaryOp .Not xa pos):=by
 intro env A s J H m c v H' b Q E' hs hA X e ht h;refine bN e ?_;intro x H1 e1 e;refine ka e ?_;intro b' e2 e3;revert ht h;refine jB e3 ?_;intro ht h;revert h;refine jA ht ?_;intro h;with_reducible refine wpAny_isTrue_Not ?_
 exact ha env A s J H m c x _ b' _ _ hs hA X e1 e2 fun s' p=>h s' p
theorem ST.of(ha:SE cx cl n sc fs cs a x)(hx:∀ env whole,isTrue x env whole=(do let v <- whole;standAt x.pos;holding [v] (Ht v))):ST cx cl n sc fs cs a x:=by
 intro env A s J H m c v H' b Q E' hs hA X e ht h;refine wpAny_isTrue_value ?_ (hx _ _);refine ha.one hs hA X e fun va s' J' sm S X' ra=> ?_;exact oJ X'.inv ra ht fun tk=>h _ (ak.trans sm S (ak.pure X'.inv rfl))
noncomputable def wM:B4->CmpOp
 | .eq=> .Eq | .ne=> .NotEq | .lt=> .Lt | .gt _=> .Gt | .ge=> .GtE | .in_=> .In | .notIn=> .NotIn
set_option tactic.hygienic true in
theorem oW{k:DW->DQ->Prop}{r:Bool}(hA:kl A n)(I:cf cx J H s.heap)(rx:cb J s.heap x vx)(rc:cb J s.heap cc vc)(h:bc H x cc=DJ r)(neg:Bool)
  (hQ:∀ tk,k (.bool (if neg then !r else r)) { s with toks:=tk }):D2 cx.M A (compareOp (if neg then .NotIn else .In) vx vc) k E' s:=by
 have hu:A.units+64<cLine:=by have:=hA.hu;exact bu (nat_lit 407288254993336523200) tt this
 have hu':A.units+70<cLine:=by have:=hA.hu;exact bu (nat_lit 407295010392777578944) tt this
 cases cc with
 | ref a=>
  refine af rc fun b hJ z3=>?_;clear rc;subst z3;rewrite [vL]at h;split at h
  ·rename_i vs hk;cases neg with
   | false=>exact yl hu I rx hJ hk h (hQ s.toks)
   | true=>exact te hu I rx hJ hk h (hQ s.toks)
  ·rename_i es hk;split at h
   ·rename_i q;revert hQ;refine jA h ?_;intro hQ;cases neg with
    | false=>exact yn hu' I hJ hk rx q hQ
    | true=>exact tn hu' I hJ hk rx q hQ
   ·exact nO h
  ·exact nO h
 | _=>exact nO h
end
end Mine.Internal
end
section
open PySem PySem.W PyProof.Rows PySem.Calls
namespace Mine.Internal
section
variable {cx:Cx} {cl:aR} {n:Nat} {sc:Scope} {fs cs:List DL} {A:Around} {E':DW->DQ->Prop} {s:DQ} {J:Jm} {H:Hp} {env:Env} {m c:aZ}
theorem zY{k:DW->DQ->Prop}{r:Bool}(hA:kl A n)(I:cf cx J H s.heap)(rx:cb J s.heap x vx)(ry:cb J s.heap y vy)(h:nG H o x y=DJ r)
  (hQ:∀ tk,k (.bool r) { s with toks:=tk }):D2 cx.M A (compareOp (wM o) vx vy) k E' s:=by
 have hu:A.units+64<cLine:=by have:=hA.hu;exact bu (nat_lit 407288254993336523200) tt this
 cases o with
 | eq=>exact CQ hu I rx ry h (hQ s.toks)
 | ne=>
  refine lY h ?_;clear h;rintro b h rfl;exact CR hu I rx ry h (hQ s.toks)
 | lt=>
  refine cU h ?_;clear h;rintro x rfl h;refine cU h ?_;clear h;rintro y rfl h;revert hQ;refine jA h ?_;intro hQ;refine aq rx fun t z2=>?_;clear rx;subst z2;refine aq ry fun u z2=>?_;clear ry;subst z2;simp only[wM];with_reducible refine wpAny_lt_int ?_
  exact hQ s.toks
 | gt=>
  refine cU h ?_;clear h;rintro x rfl h;refine cU h ?_;clear h;rintro y rfl h;revert hQ;refine jA h ?_;intro hQ;refine aq rx fun t z2=>?_;clear rx;subst z2;refine aq ry fun u z2=>?_;clear ry;subst z2;simp only[wM];with_reducible refine P.gt_int ?_
  exact hQ s.toks
 | ge=>
  refine cU h ?_;clear h;rintro x rfl h;refine cU h ?_;clear h;rintro y rfl h;revert hQ;refine jA h ?_;intro hQ;refine aq rx fun t z2=>?_;clear rx;subst z2;refine aq ry fun u z2=>?_;clear ry;subst z2;simp only[wM];with_reducible refine P.ge_int ?_
  exact hQ s.toks
 | in_=>exact oW hA I rx ry h false hQ
 | notIn=>
  refine lY h ?_;clear h;rintro b h rfl;exact oW hA I rx ry h true hQ
theorem SE.cmp(ha:SE cx cl n sc fs cs a xa)(hb:SE cx cl n sc fs cs b xb)(hm:behindInMarks (wM o) xb=false):SE cx cl n sc fs cs (.cmp o a b) (.Compare xa [wM o] [xb] pos):=by
 intro env A s J H m c v H' Q E' hs hA X e h;refine bN e ?_;intro x H1 e1 e;refine bN e ?_;intro y H2 e2 e;refine ka e ?_;intro r e3 e4;revert h;refine jB e4 ?_;intro h;refine wpAny_Compare1 ?_ hm;refine ha.then hb hs hA X e1 e2 fun va vb s' J' sm S X' ra rb=> ?_;exact zY hA X'.inv ra rb e3 fun tk=>h _ _ (ak.trans sm S (ak.pure X'.inv rfl))
theorem ST.cmp(ha:SE cx cl n sc fs cs a xa)(hb:SE cx cl n sc fs cs b xb)(hm:behindInMarks (wM o) xb=false):ST cx cl n sc fs cs (.cmp o a b) (.Compare xa [wM o] [xb] pos):=by
 intro env A s J H m c v H' b' Q E' hs hA X e ht h;refine bN e ?_;intro x H1 e1 e;refine bN e ?_;intro y H2 e2 e;refine ka e ?_;intro r e3 e4;revert ht h;refine jB e4 ?_;intro ht h;revert h;refine jA ht ?_;intro h;refine wpAny_isTrue_Compare1 ?_ hm;refine ha.then hb hs hA X e1 e2 fun va vb s' J' sm S X' ra rb=> ?_;refine zY hA X'.inv ra rb e3 fun tk=> ?_;with_reducible refine Hd ?_
 exact h _ (ak.trans sm S (ak.pure X'.inv rfl))
noncomputable def tv:Bool->BoolOp->Bool
 | true,.And=>true
 | false,.Or=>true
 | _,_=>false
inductive SB(cx:Cx)(cl:aR)(n:Nat)(sc:Scope)(fs cs:List DL):List E->List Expr->Prop
 | nil:SB cx cl n sc fs cs [] []
 | cons {e:E} {x:Expr} {es:List E} {xs:List Expr}:SE cx cl n sc fs cs e x->ST cx cl n sc fs cs e x->SB cx cl n sc fs cs es xs->SB cx cl n sc fs cs (e::es) (x::xs)
set_option backward.match.sparseCases true in
theorem SB.evalB{k:Bool}{op:BoolOp}(hk:tv k op=true)(hb:SB cx cl n sc fs cs es xs):∀ {s:DQ} {J:Jm} {H:Hp} {v:AV} {H':Hp} {Q:DW->DQ->Prop},env.scope=sc->kl A n->kY cx env fs cs m c J H s.heap->
  yN cl k es m c H=DJ (v,H')->(∀ val s',ak cx J s v H' val s'->Q val s')->D2 cx.M A (boolOp pos op (evalEach xs env)) Q E' s:=by
 induction hb with
 | nil=>intro s J H v H' Q hs hA X e h;exact nO e
 | @cons e x es xs h1 h2 hr ih=>
  intro s J H v H' Q hs hA X e0 h;cases es with
  | nil=>
   cases hr;exact h1 env A s J H m c v H' Q E' hs hA X e0 h
  | cons e2 es2=>
   cases hr with
   | @cons _ x2 _ xs2 g1 g2 g3=>
   refine bN e0 ?_;intro y H1 e1 e0;refine ka e0 ?_;intro t e3 e4;try dsimp only at e4
   show D2 cx.M A (do
    let v <- Of x env
    standAt pos
    let t <- holding [v] (Ht v)
    match op,t with
    | .And,false | .Or,true=>pure v
    | _,_=>boolOp pos op (evalEach (x2::xs2) env)) Q E' s
   refine DM (h1.one hs hA X e1 fun va s' J' sm S X' ra=> ?_);refine DM (FQ (DM (E0 (oJ X'.inv ra e3 fun tk=> ?_))));have X'':kY cx env fs cs m c J' H1 ({ s' with toks:=tk }:DQ).heap:=X';by_cases q:t=k
   ·rw[if_pos q]at e4;subst q;have:D2 cx.M A (boolOp pos op (evalEach (x2::xs2) env)) Q E' { s' with toks:=tk }:=ih (s:={ s' with toks:=tk }) hs hA X'' e4 fun val s'' p=>h val s'' (ak.trans (ae sm ⟨s'.heap,tk,rfl⟩) S p);cases op<;>cases t<;>first | exact this | (exact fT hk;done)
   ·rw[if_neg q]at e4;revert h;refine jB e4 ?_;intro h;have:D2 cx.M A (pure va) Q E' { s' with toks:=tk }:=DP (h _ _ (ak.trans sm S (ak.pure X'.inv ra)));cases op<;>cases t<;>cases k<;>first | exact this | exact absurd rfl q | (exact fT hk;done)
theorem SE.bop{k:Bool}{op:BoolOp}(hk:tv k op=true)(hb:SB cx cl n sc fs cs es xs):SE cx cl n sc fs cs (.bop k es) (.BoolOp op xs pos):=by
 intro env A s J H m c v H' Q E' hs hA X e h;dsimp only[arm_eval_BoolOp];exact hb.evalB hk hs hA X e h
set_option backward.match.sparseCases true in
theorem SB.testB{k:Bool}{op:BoolOp}(hk:tv k op=true)(hb:SB cx cl n sc fs cs es xs):∀ {s:DQ} {J:Jm} {H:Hp} {v:AV} {H':Hp} {b:Bool} {Q:Bool->DQ->Prop},env.scope=sc->kl A n->kY cx env fs cs m c J H s.heap->
  yN cl k es m c H=DJ (v,H')->truthy H' v=DJ b->(∀ s',ak cx J s .none H' .none s'->Q b s')->D2 cx.M A (allTrue op xs env) Q E' s:=by
 induction hb with
 | nil=>intro s J H v H' b Q hs hA X e ht h;exact nO e
 | @cons e x es xs h1 h2 hr ih=>
  intro s J H v H' b Q hs hA X e0 ht h;have step:∀ {y:AV} {H1:Hp} {t:Bool} {Q':Bool->DQ->Prop},aC cl e m c H=DJ (y,H1)->truthy H1 y=DJ t->
    (∀ s',ak cx J s .none H1 .none s'->if t=k then D2 cx.M A (allTrue op xs env) Q' E' s' else Q' t s')->D2 cx.M A (allTrue op (x::xs) env) Q' E' s:=by
   intro y H1 t Q' e1 e3 hh;show D2 cx.M A (do
    match op,<- Hu x env (Of x env) with
    | .And,false=>pure false
    | .Or,true=>pure true
    | _,_=>allTrue op xs env) Q' E' s
   refine DM (h2 env A s J H m c y H1 t _ _ hs hA X e1 e3 fun s' p=> ?_);have:=hh s' p;cases op<;>cases t<;>cases k<;>first | (exact fT hk;done) | exact this | exact DP this
  cases es with
  | nil=>
   cases hr;refine step e0 ht fun s' p=> ?_;split
   ·rename_i q;subst q;cases op<;>cases b<;>first | (exact fT hk;done) | exact DP (h s' p)
   ·exact h s' p
  | cons e2 es2=>
   refine bN e0 ?_;intro y H1 e1 e0;refine ka e0 ?_;intro t e3 e4;try dsimp only at e4
   refine step e1 e3 fun s' p=> ?_;refine am p fun sm z16=>?_;clear p;refine aM z16 fun J' S I uu=>?_;clear z16;split at e4
   ·rename_i q;refine yF (if_pos q) ?_;exact ih hs hA (X.step S I) e4 ht fun s'' p'=>h s'' (ak.trans sm S p')
   ·rename_i q;refine yF (if_neg q) ?_;revert e3 I;refine jS e4 ?_;intro e3 I;rw[e3]at ht;refine jR ht ?_;exact h _ ⟨sm,J',S,I,rfl⟩
theorem ST.bop{k:Bool}{op:BoolOp}(hk:tv k op=true)(hb:SB cx cl n sc fs cs es xs):ST cx cl n sc fs cs (.bop k es) (.BoolOp op xs pos):=by
 intro env A s J H m c v H' b Q E' hs hA X e ht h;with_reducible refine wpAny_isTrue_BoolOp ?_
 exact hb.testB hk hs hA X e ht h
theorem SE.ite{xt xa xb:Expr}(ht:ST cx cl n sc fs cs t xt)(ha:SE cx cl n sc fs cs a xa)(hb:SE cx cl n sc fs cs b xb):SE cx cl n sc fs cs (.ite t a b) (.IfExp xt xa xb pos):=by
 intro env A s J H m c v H' Q E' hs hA X e h;refine bN e ?_;intro y H1 e1 e;refine ka e ?_;intro r e3 e4;try dsimp only at e4
 with_reducible refine wpAny_IfExp ?_
 refine ht env A s J H m c y H1 r _ _ hs hA X e1 e3 fun s' p=> ?_;refine am p fun sm z16=>?_;clear p;refine aM z16 fun J' S I uu=>?_;clear z16;cases r with
 | true=>exact ha env A s' J' H1 m c v H' Q E' hs hA (X.step S I) e4 fun val s'' p'=>h val s'' (ak.trans sm S p')
 | false=>exact hb env A s' J' H1 m c v H' Q E' hs hA (X.step S I) e4 fun val s'' p'=>h val s'' (ak.trans sm S p')
noncomputable def fG(e:Expr):Bool:=HG e.ctorIdx 23 || Nat.beq e.ctorIdx 20 || Nat.beq e.ctorIdx 21 || Nat.beq e.ctorIdx 6
theorem oX(h:fG o=true):attributeBase o name env w=w:=by
 cases o<;>first | rfl | exact fT h
theorem SE.attr(hC:f7 cx)(hK:lP cx)(ho:SE cx cl n sc fs cs o xo)(hn:decide (name.cps.toList=nm)=true)(hb:fG xo=true):SE cx cl n sc fs cs (.attr o nm) (.Attribute xo name pos):=by
 intro env A s J H m c v H' Q E' hs hA X e h;refine bN e ?_;intro y H1 e1 e;refine ka e ?_;intro r e3 e4;revert h;refine jB e4 ?_;intro h;have hname:name=⟨nm.toArray⟩:=by
  rw[decide_eq_true_eq]at hn;cases name;simp only at hn;subst hn;simp
 subst hname;show D2 cx.M A (do
  let o <- attributeBase xo ⟨nm.toArray⟩ env (eval xo env)
  standAt pos.atName
  let r <- holding [o] (getAttr o ⟨nm.toArray⟩ true)
  letTemporaryGo xo o r
  pure r) Q E' s
 refine yF (oX hb) ?_;refine DM (ho.one hs hA X e1 fun va s' J' sm S X' ra=> ?_);refine DM (FQ (DM (E0 (qk hC hK X'.inv ra e3 fun val tk rv=> ?_))));refine DM (wpAny_letTemporaryGo (DP ?_));exact h _ _ (ak.trans sm S (ak.pure X'.inv rv))
noncomputable def iO(e:Expr):Bool:= !Nat.beq e.ctorIdx 26
theorem fh(h:iO i=true):subscripted i false o iv=operate [o,iv] (getItem o iv):=by
 cases i<;>first | rfl | exact fT h
theorem SE.sub(ho:SE cx cl n sc fs cs o xo)(hi:SE cx cl n sc fs cs i xi)(hn:iO xi=true):SE cx cl n sc fs cs (.sub o i) (.Subscript xo xi pos):=by
 intro env A s J H m c v H' Q E' hs hA X e h;refine bN e ?_;intro x H1 e1 e;refine bN e ?_;intro y H2 e2 e;refine ka e ?_;intro r e3 e4;revert e2 e3;refine jS e4 ?_;intro e2 e3;have hu:A.units+70<cLine:=by have:=hA.hu;exact bu (nat_lit 407295010392777578944) tt this
 refine Subscript_ (ho.then hi hs hA X e1 e2 fun vo vi s' J' sm S X' ro ri=> ?_);unfold fS at e3;have fin:∀ {Q':DW->DQ->Prop},D2 cx.M A (getItem vo vi) (ak cx J' s' v H') E' s'->D2 cx.M A (getItem vo vi) Q E' s':=fun z=>Fm z (fun val s'' p=>h val s'' (ak.trans sm S p)) fun _ _ z=>z;split at e3
 ·split at e3
  ·have g:=i9 (A:=A) (E:=E') (t:=0) X'.inv ro e3;have ro':=ro;refine dH ro' fun a its k z4 hoo uu uu=>?_;clear ro';subst z4;refine aq ri fun t z2=>?_;clear ri;subst z2;have hT:s'.TypeIs (.ref a) "tuple" :=⟨_,hoo,rfl⟩;exact tail_any hT slot_tuple_getitem.lookup (fin (Q':=Q) (i9 X'.inv ro e3)) (fh hn)
  ·exact nO e3
 ·rename_i k;refine af ro fun a hJ z3=>?_;clear ro;subst z3;split at e3
  ·rename_i vs hk;split at e3
   ·refine aq ri fun t z2=>?_;clear ri;subst z2;refine aW (X'.inv.rep.obj _ _ _ hk hJ) fun its k2 hoo uu uu=>?_;have hT:s'.TypeIs (.ref a) "list" :=⟨_,hoo,rfl⟩;exact tail_any hT list_getitem_lookup (fin (Q':=Q) (kj X'.inv hJ hk e3)) (fh hn)
   ·exact nO e3
  ·rename_i es hk;split at e3
   ·rename_i q;refine cp (X'.inv.rep.obj _ _ _ hk hJ) fun ds k2 hoo uu uu uu=>?_;have hT:s'.TypeIs (.ref a) "dict" :=⟨_,hoo,rfl⟩;exact tail_any hT HL.lookup (fin (Q':=Q) (kh hu X'.inv hJ hk ri q e3)) (fh hn)
   ·exact nO e3
  ·exact nO e3
 ·exact nO e3
set_option tactic.hygienic true in
theorem SE.slice{k:Nat}{kk:Nat}(ho:SE cx cl n sc fs cs o (.Name x np)):SE cx cl n sc fs cs (.slice o k) (.Subscript (.Name x np) (.Slice none (DJ (.Constant (.int k) kk kp)) none p) pos):=by
 intro env A s J H m c v H' Q E' hs hA X e h;refine bN e ?_;intro y H1 e1 e;refine ka e ?_;intro vs e3 e4;revert h e;refine jB e4 ?_;intro h e;refine HC ?_ (fun _ _=>rfl);refine ho.one hs hA X e1 fun va s' J' sm S X' ra=> ?_;unfold uP at e3;split at e3
 ·rename_i j;refine af ra fun a hJ z3=>?_;clear ra;subst z3;split at e3
  ·rename_i ws hk;revert hk;refine jR e3 ?_;intro hk;refine aW (X'.inv.rep.obj _ _ _ hk hJ) fun its k2 hoo rl hz=>?_;have hlen:=rl.length;have z2:=jJ;show D2 _ _ (pure Ic) _ _ _;refine DP ?_;show D2 _ _ (eval (.Constant (.int k) kk kp) env) _ _ _;with_reducible refine HB ?_
   refine⟨a,its,none,DJ (k:Int),rfl,⟨_,hoo,rfl,_,rfl⟩,DO hz (by decide),?_,?_,?_⟩
   ·constructor
   ·constructor
   ·refine yF (KD _ _) ?_;refine h _ _ ?_;have k1:∀ b o,s'.heap.get? b=DJ o->((s'.heap.push { cls:= .type "slice",data:= .fields #[.none,.int k s'.toks,.none] }).push { cls:= .type "list",data:= .seq (its.toList.take k).toArray }).get? b=DJ o:=fun b o e=>D3 _ (D3 _ e);have hz1:(s'.heap.push { cls:= .type "slice",data:= .fields #[.none,.int k s'.toks,.none] }).objs.size=s'.heap.objs.size+1:=F2 ..;have fr:s'.heap.get? (s'.heap.objs.size+1)=none:=by
     cases q:s'.heap.get? (s'.heap.objs.size+1) with
     | none=>rfl
     | some o=>exact absurd (FF q) (Fe.mpr (IP _))
    refine ak.trans sm S (ak.adopt (s':={ s' with heap:=_,toks:=s'.toks+1 }) ⟨_,_,rfl⟩ (bV.of_keeps k1) (X'.inv.keeps k1) (fun q=>X'.inv.aliveJ q fr) fr (dQ X'.inv fr) (X'.inv.above_sys (IP _)) ?_);refine⟨(its.toList.take k).toArray,0,?_,?_,?_⟩
    ·refine yB hz1 ?_;exact Er _ rfl
    ·exact (rl.take k).ext (E9 _ _) fun a its n e=>k1 _ _ e
    ·refine yF FV ?_;refine yF EG ?_;simp only[Ej];exact bu (nat_lit 13330777282088160564042575399361) tt (EE _ _) hz
  ·cases e3
 ·cases e3
end
end Mine.Internal
end
section
open PySem PySem.W PyProof.Rows PySem.Calls
namespace Mine.Internal
section
variable {cx:Cx} {cl:aR} {n:Nat} {sc:Scope} {fs cs:List DL} {A:Around} {E':DW->DQ->Prop} {s:DQ} {J:Jm} {H:Hp} {env:Env} {m c:aZ}
theorem gZ:∀ {xs:List Expr},xs.all cm=true->(backTo pos (starEach xs env)).any (·.1)=false
 | [],_=>rfl
 | e::r,h=>by
  rw[FD,Eb]at h;refine yF (ja h.1) ?_;show (false || (backTo pos (starEach r env)).any (·.1))=false;refine yF (gZ h.2) ?_;rfl
theorem jN{trees:List (Bool × Sem DW)}{Q:Args->DQ->Prop}(hp:trees.any (·.1)=false)(h:D2 cx.M A (spliced trees) (fun vs s'=>Q ⟨vs,[]⟩ s') E' s):D2 cx.M A (evalArgs f true trees []) Q E' s:=by
 cases trees with
 | nil=>
  unfold evalArgs;show D2 cx.M A (spliced [] >>= _) Q E' s;refine DM (Fm h (fun vs s' h'=> ?_) fun _ _ x=>x);refine DM (DP ?_);refine E0 ?_;exact DM (DP (DM (DP (DP h'))))
 | cons p r=>
  obtain⟨b,x⟩:=p;rw[Jc,GA]at hp;refine am hp fun z1 uu=>?_;clear hp;subst z1;exact evalArgs_plain h
theorem rO{Q:DW->DQ->Prop}(hC:f7 cx)(hk:keepIn cx.K f=true)(hl:SL cx cl n sc fs cs es xs)(hx:xs.all cm=true)(hs:env.scope=sc)(hA:kl A n)
  (X:kY cx env fs cs m c J H s.heap) (e:iP cl es m c H=DJ (vs,H')) (h:∀ vals s',vp cx J s vs H' vals s'->D2 cx.M A (call f (first++vals)) Q E' s'):
  D2 cx.M A (callWith pos f first (backTo pos (starEach xs env)) []) Q E' s:=by
 refine callWith_of (P:=cx.K.In) (by refine yF (gZ hx) ?_;rfl) (keeps_K hk) (jN (gZ hx) ?_);refine hl env A s J H m c vs H' pos _ _ hs hA X e fun vals s' p=>⟨?_,h vals s' p⟩;refine am p fun uu z16=>?_;clear p;refine aM z16 fun J' uu I uu=>?_;clear z16;exact I.K hC
theorem nq{Q:DW->DQ->Prop}(hk:keeperOf f=pure .machine)(hl:SL cx cl n sc fs cs es xs)(hx:xs.all cm=true)(hs:env.scope=sc)(hA:kl A n)
  (X:kY cx env fs cs m c J H s.heap) (e:iP cl es m c H=DJ (vs,H')) (h:∀ vals s',vp cx J s vs H' vals s'->D2 cx.M A (call f (first++vals)) Q E' s'):
  D2 cx.M A (callWith pos f first (backTo pos (starEach xs env)) []) Q E' s:=by
 refine callWith_of (P:=fun _=>True) (by refine yF (gZ hx) ?_;rfl) (fun _ _=>⟨.machine,.inr (.inl rfl),Looks.of_pure hk⟩) (jN (gZ hx) ?_);exact hl env A s J H m c vs H' pos _ _ hs hA X e fun vals s' p=>⟨trivial,h vals s' p⟩
theorem SE.call{fa:Nat->Addr}(hC:f7 cx)(hcl:iq cx fa cl n){f:Nat}{es:List E}{xs:List Expr}{id:DL}{p pos:Pos}(hk:sc.names.lookup id=DJ .globalImplicit)(hd:(id == ("__debug__" :DL))=false)
  (hg:cx.mg id=DJ (.ref (fa f))/\keepIn cx.K (.ref (fa f))=true) (hl:SL cx cl n sc fs cs es xs) (hx:xs.all cm=true):SE cx cl n sc fs cs (.call f es) (.Call (.Name id p) xs [] pos):=by
 intro env A s J H m c v H' Q E' hs hA X e h;refine bN e ?_;intro vs H1 e1 e2;dsimp only at e2;refine Call_ (oV hC X (by subst hs;exact hk) hg.1 hd ?_);refine rO hC hg.2 hl hx hs hA X e1 fun vals s' p=> ?_;refine am p fun sm z16=>?_;clear p;refine aM z16 fun J' S I r=>?_;clear z16;refine Jr (hcl f vs H1 v H' e2 A s' J' vals _ hA.c I r fun val s'' p=> ?_);exact h _ _ (ak.trans sm S p)
theorem mU(args:List DW):Code.frames (.builtin "type.__call__" ⟨args,[]⟩)=0:=by
 rfl
theorem kl.under_type(hA:kl A n):zC (A.under (.builtin "type.__call__" ⟨args,[]⟩)) n:=by
 refine⟨hA.1,?_,?_⟩
 ·show A.depth+Code.weight _+_+_<_;have:Code.weight (.builtin "type.__call__" ⟨args,[]⟩)<=1:=by
   unfold Code.weight;have h2:Code.isGuard (.builtin "type.__call__" ⟨args,[]⟩)=false:=by unfold Code.isGuard;show guardIds.contains "type.__call__" =false;decide+kernel
   have h3:Code.isCaller (.builtin "type.__call__" ⟨args,[]⟩)=false:=rfl;refine yF (mU _) ?_;refine yF h2 ?_;refine yF h3 ?_;split<;>simp
  have:=hA.2.1;exact kt (nat_lit 483576395612774820842165579070166568093121) tt this ‹_›
 ·show A.units+Code.cUnits _+_+_<_;have:Code.cUnits (.builtin "type.__call__" ⟨args,[]⟩)<=8:=by
   unfold Code.cUnits;simp[mU]
  have:=hA.2.2;exact kt (nat_lit 507056113708454317577351525506077893930795753921) tt this ‹_›
theorem SE.new{fa:Nat->Addr}(hC:f7 cx)(hcl:iq cx fa cl n){es:List E}{xs:List Expr}{id:DL}{p pos:Pos}(hk:sc.names.lookup id=DJ .globalImplicit)(hd:(id == ("__debug__" :DL))=false)
  (hg:cx.mg id=DJ (.ref cx.C)/\keepIn cx.K (.ref cx.C)=true) (hm:makesIn cx.K cx.C=true) (hi:findIn cx.K (.ref cx.C) "__init__" =DJ (DJ (.ref (fa 0)))/\typeIn cx.K (.ref (fa 0))=DJ (.type "function"))
  (hl:SL cx cl n sc fs cs es xs) (hx:xs.all cm=true):SE cx cl n sc fs cs (.new es) (.Call (.Name id p) xs [] pos):=by
 intro env A s J H m c v H' Q E' hs hA X e h;refine bN e ?_;intro vs H1 e1 e;refine bN e ?_;intro r H2 e2 e3;try dsimp only at e3
 refine Call_ (oV hC X (by subst hs;exact hk) hg.1 hd ?_);refine rO hC hg.2 hl hx hs hA X e1 fun vals s' p=> ?_;refine am p fun sm z16=>?_;clear p;refine aM z16 fun J' S I rl=>?_;clear z16;refine bY (zB I) fun S2 I2 l2=>?_;refine Jr (BN hC I hm hi.1 hi.2 ?_);refine hcl 0 _ _ r H2 e2 _ _ _ _ _ hA.under_type I2 ⟨_,_,rfl,⟨_,l2,rfl⟩,rl.mono S2⟩ fun val s'' p=> ?_;refine am p fun sm3 z16=>?_;clear p;refine aM z16 fun J3 S3 I3 r3=>?_;clear z16;split at e3
 ·revert h;refine jB e3 ?_;intro h;cases r3;refine⟨rfl,h _ _ ⟨ae sm (ae ⟨_,_,rfl⟩ sm3),J3,S.trans (S2.trans S3),I3,_,dP S3.pre l2,rfl⟩⟩
 ·exact nO e3
theorem tw{Q:DW->DQ->Prop}(hb:fG o=true)(hx:args.all cm=true)(hn:args.length<20)(hline:(apos.endLine == pos.line)=true)
  (h:D2 cx.M A (eval o env) (fun ov s₁=>D2 cx.M A (getMethod ov name (do return (<- importBound o env).getD true)) (fun fx s₂=>D2 cx.M A (callWith pos fx.1 fx.2 (backTo pos (starEach args env)) []) Q E' s₂) E' s₁) E' s):
  D2 cx.M A (eval (.Call (.Attribute o name apos) args [] pos) env) Q E' s:=by
 dsimp only[arm_eval_Call];refine yF (oX hb) ?_;refine DM (Fm h (fun ov s₁ h₁=> ?_) fun _ _ e=>e);refine DM (FQ ?_);have hall:∀ {xs:List Expr},xs.all cm=true->(backTo pos (starEach xs env)).all (fun x=> !x.1)=true:=by
  intro xs;induction xs with
  | nil=>intro _;rfl
  | cons e r ih=>
   intro hh;rw[FD,Eb]at hh;refine yF (ja hh.1) ?_;show (!false&&(backTo pos (starEach r env)).all (fun x=> !x.1))=true;refine yF (ih hh.2) ?_;rfl
 have hform:methodCallForm (args.length+([]:List Keyword).length) (backTo pos (starEach args env)) (backToKw pos (keywordEach [] env))=true:=by
  unfold methodCallForm;refine yF (hall hx) ?_;have:decide (args.length+0+0<30)=true:=by refine yF decide_eq_true_eq ?_;exact dm (nat_lit 441044564065895728576) tt hn
  exact this
 have hpos:methodCallPos true o env apos pos=pure pos:=by unfold methodCallPos;simp[hline]
 unfold methodCall;refine yF hform ?_;refine DM (E0 (Fm h₁ (fun fx s₂ h₂=> ?_) fun _ _ e=>e));exact DM (IK hpos h₂)
set_option tactic.hygienic true in
theorem SE.meth{fa:Nat->Addr}(hC:f7 cx)(hK:lP cx)(hcl:iq cx fa cl n)(hb:fG xo=true)(hx:xs.all cm=true)(hn:xs.length<20)(hline:(apos.endLine == pos.line)=true)
  (hg:cj.contains name.cps.toList=false/\findIn cx.K (.ref cx.C) name=DJ (DJ (.ref (fa f)))/\isFn cx.K (.ref (fa f))=true/\keepIn cx.K (.ref (fa f))=true) (ho:SE cx cl n sc fs cs o xo) (hl:SL cx cl n sc fs cs es xs):
  SE cx cl n sc fs cs (.meth o f es) (.Call (.Attribute xo name apos) xs [] pos):=by
 intro env A s J H m c v H' Q E' hs hA X e h;refine bN e ?_;intro x H1 e1 e2;dsimp only at e2;refine tw hb hx hn hline (ho.one hs hA X e1 fun va s' J' sm S X' ra=> ?_);split at e2
 ·rename_i k;refine af ra fun a hJ z3=>?_;clear ra;subst z3;split at e2
  ·rename_i hi;refine bN e2 ?_;intro vs H2 e2 e3;refine tp hC hK X'.inv hJ hi hg.1 hg.2.1 hg.2.2.1 ?_;refine rO hC hg.2.2.2 hl hx hs hA X' e2 fun vals s'' p=> ?_;refine am p fun sm2 z16=>?_;clear p;refine aM z16 fun J2 S2 I2 rl=>?_;clear z16;refine Jr (hcl f _ _ v H' e3 A s'' J2 (.ref a::vals) _ hA.c I2 ⟨_,_,rfl,⟨a,dP S2.pre hJ,rfl⟩,rl⟩ fun val s3 p3=> ?_);exact h _ _ (ak.trans sm S (ak.trans sm2 S2 p3))
  ·exact nO e2
 ·exact nO e2
end
end Mine.Internal
end
section
open PySem PySem.W PyProof.Rows PySem.Calls
namespace Mine.Internal
section
variable {cx:Cx} {cl:aR} {n:Nat} {sc:Scope} {fs cs:List DL} {A:Around} {E':DW->DQ->Prop} {s:DQ} {J:Jm} {H:Hp} {env:Env} {m c:aZ}
noncomputable def vt:BI->Option DW
 | .len=>DJ (.builtin "len")
 | .list=>DJ (.type "list")
 | .tuple=>DJ (.type "tuple")
 | .sum=>DJ (.builtin "sum")
 | .min1=>DJ (.builtin "min")
 | .min2=>DJ (.builtin "min")
 | .str=>DJ (.type "str")
 | .lenset _=>none
theorem rP(h:vt b=DJ f):keeperOf f=pure .machine:=by
 cases b<;>cases h<;>rfl
theorem CS(hC:f7 cx)(hh:A.handled=none)(hb:vt b=DJ f)(I:cf cx J H s.heap)(r:cE J s.heap vs vals)(h:pH H b vs=DJ (v,H')):
  D2 cx.M A (call f vals) (ak cx J s v H') E' s:=by
 cases b with
 | len=>
  refine eU h ?_;clear h;rintro x rfl h;refine jA hb ?_;refine aW r fun y ys z3 ry z5=>?_;clear r;subst z3;subst z5;cases x with
  | tup vs=>(refine jB h ?_);exact yp I ry
  | ref k=>
   refine dT h ?_;clear h;intro vs hk h;refine af ry fun a hJ z3=>?_;clear ry;subst z3;refine jB h ?_;exact wA I hJ hk
  | _=>exact nO h
 | list=>
  refine eU h ?_;clear h;rintro x rfl h;refine gw h ?_;clear h;rintro k rfl h;refine dT h ?_;clear h;intro vs hk h;refine jA hb ?_;refine aW r fun y ys z3 z4 z5=>?_;clear r;subst z3;refine af z4 fun a hJ z153=>?_;clear z4;subst z153;subst z5;refine jB h ?_;exact AP I hJ hk
 | tuple=>
  refine eU h ?_;clear h;rintro x rfl h;refine gw h ?_;clear h;rintro k rfl h;refine dT h ?_;clear h;intro vs hk h;refine jA hb ?_;refine aW r fun y ys z3 z4 z5=>?_;clear r;subst z3;refine af z4 fun a hJ z153=>?_;clear z4;subst z153;subst z5;refine jB h ?_;exact zz I hJ hk
 | sum=>
  refine eU h ?_;clear h;rintro x rfl h;refine gw h ?_;clear h;rintro k rfl h;refine dT h ?_;clear h;intro vs hk h;refine lY h ?_;clear h;intro is hi e;refine jA hb ?_;refine aW r fun y ys z3 z4 z5=>?_;clear r;subst z3;refine af z4 fun a hJ z153=>?_;clear z4;subst z153;subst z5;refine jP e ?_;exact BL hC hh I hJ hk hi
 | min1=>
  refine eU h ?_;clear h;rintro x rfl h;refine pG h ?_;clear h;rintro vs rfl h;refine ka h ?_;intro is hi h;refine lY h ?_;clear h;intro mn hm e;refine jA hb ?_;refine aW r fun y ys z3 ry z5=>?_;clear r;subst z3;subst z5;revert h;refine jP e ?_;intro h;exact AR hh I ry hi hm
 | min2=>
  refine uO h ?_;clear h;rintro x y rfl h;refine cU h ?_;clear h;rintro i rfl h;refine cU h ?_;clear h;rintro j rfl h;refine jA hb ?_;refine jB h ?_;refine aW r fun y ys z3 ry z16=>?_;clear r;subst z3;refine aW z16 fun z zs z73 rz z75=>?_;clear z16;subst z73;subst z75;exact AQ hh I ry rz
 | str=>
  refine eU h ?_;clear h;rintro x rfl h;refine cU h ?_;clear h;rintro i rfl h;refine ifs h ?_;clear h;intro q h;refine jA hb ?_;refine aW r fun y ys z3 ry z5=>?_;clear r;subst z3;subst z5;refine jB h ?_;exact BM I ry q.1 q.2
 | lenset=>exact nO hb
theorem SE.bi(hC:f7 cx){b:BI}{f:DW}{es:List E}{xs:List Expr}{id:DL}{p pos:Pos}(hb:vt b=DJ f)(hk:sc.names.lookup id=DJ .globalImplicit)(hd:(id == ("__debug__" :DL))=false)
  (hg:cx.mg id=none/\bootBuiltins id=DJ f/\id≠ "__name__") (hl:SL cx cl n sc fs cs es xs) (hx:xs.all cm=true):SE cx cl n sc fs cs (.bi b es) (.Call (.Name id p) xs [] pos):=by
 intro env A s J H m c v H' Q E' hs hA X e h;refine bN e ?_;intro vs H1 e1 e2;dsimp only at e2;refine Call_ (j7 hC X (by subst hs;exact hk) hg.1 hg.2.1 hg.2.2 hd ?_);refine nq (rP hb) hl hx hs hA X e1 fun vals s' p=> ?_;refine am p fun sm z16=>?_;clear p;refine aM z16 fun J' S I r=>?_;clear z16;exact Fm (CS hC hA.hh hb I r e2) (fun val s'' p=>h _ _ (ak.trans sm S p)) fun _ _ z=>z
theorem SE.lenset(hC:f7 cx){a:E}{xa:Expr}{id id2:DL}{p p2 pos pos2:Pos}(hk:sc.names.lookup id=DJ .globalImplicit)(hd:(id == ("__debug__" :DL))=false)(hg:cx.mg id=none/\bootBuiltins id=DJ (.builtin "len")/\id≠ "__name__")
  (hk2:sc.names.lookup id2=DJ .globalImplicit) (hd2:(id2 == ("__debug__" :DL))=false) (hg2:cx.mg id2=none/\bootBuiltins id2=DJ (.type "set")/\id2≠ "__name__") (ha:SE cx cl n sc fs cs a xa) (hx:cm xa=true):
  SE cx cl n sc fs cs (.bi (.lenset ()) [a]) (.Call (.Name id p) [.Call (.Name id2 p2) [xa] [] pos2] [] pos):=by
 intro env A s J H m c v H' Q E' hs hA X e h;refine bN e ?_;intro vs H1 e1 e2;dsimp only at e2;refine Call_ (j7 hC X (by subst hs;exact hk) hg.1 hg.2.1 hg.2.2 hd ?_);refine callWith_of (P:=fun _=>True) rfl (fun _ _=>⟨.machine,.inr (.inl rfl),Looks.of_pure rfl⟩) (jN rfl ?_);refine J9 ?_ rfl;refine Call_ (j7 hC X (by subst hs;exact hk2) hg2.1 hg2.2.1 hg2.2.2 hd2 ?_);refine nq rfl (SL.cons ha SL.nil hx) (by (dsimp only[FD];refine yF hx ?_);rfl) hs hA X e1 fun vals s' p=> ?_;refine am p fun sm z16=>?_;clear p;refine aM z16 fun J' S I r=>?_;clear z16;refine eU e2 ?_;clear e2;rintro x rfl e2;refine pG e2 ?_;clear e2;rintro vs rfl e2;refine ifs e2 ?_;clear e2;intro hz e2;refine lY e2 ?_;clear e2;intro is hi e
 ·
   revert h;refine jP e ?_;intro h;refine aW r fun y ys z3 ry z5=>?_;clear r;subst z3;subst z5;refine dH ry fun t its k z4 ho rl htz=>?_;clear ry;subst z4;have hlen:=rl.length;simp only[Ej]at hlen;have hints:=oS rl hi;refine rK hA.hh ho hints (by have:scanBound=4096:=rfl;exact bS (nat_lit 13994348798930589639740886631873) tt hlen hz this) fun h' tk hS kp=> ?_;refine KC ⟨trivial,?_⟩;refine Cn hS fun o els ep tb hso hex hsd uu uu hsz hfit hcount=>?_;clear hS;have hc2:els.size<=its.size:=by
    refine yF hcount ?_;have hl:is.length=its.size:=by have:=hints.length;simpa using this.symm
    refine yB hl ?_;refine yF (lO _) ?_;unfold fM wU;have:∀ (l:List Int) (acc:List Int),(l.foldl (fun acc x=>if acc.any (· == x) then acc else acc++[x]) acc).length<=acc.length+l.length:=by
     intro l;induction l with
     | nil=>intro acc;simp
     | cons a r ih=>
      intro acc;dsimp only[F4];split
      ·have:=ih acc;simp only[D6];exact bS (nat_lit 11827066218767190048) tt this
      ·have:=ih (acc++[a]);simp only[DU,D6,Et]at this ⊢;exact bS (nat_lit 396850489197120810099619872) tt this
    simpa using this is []
   refine call_len_set hso hex hsd hfit (by lia) ?_;have kk:∀ b o,s'.heap.get? b=DJ o->h'.get? b=DJ o:=fun b o e=>kp b o (FF e) e;have hl:is.length=its.size:=by have:=hints.length;simpa using this.symm
   have e9:els.size=fM is:=by (refine DK hcount ?_;refine yB hl ?_;refine DK (lO _) ?_;rfl)
   exact h _ _ (ak.trans sm S ⟨⟨h',_,rfl⟩,J',bV.of_keeps kk,I.keeps kk,⟨_,by (refine yF e9 ?_;rfl)⟩⟩)
noncomputable def rQ:Me->Nm
 | .append=>[97,112,112,101,110,100]
 | .extend=>[101,120,116,101,110,100]
 | .pop=>[112,111,112]
 | .index _=>[105,110,100,101,120]
 | .get=>[103,101,116]
noncomputable def BO:Me->String
 | .append=> "list.append"
 | .extend=> "list.extend"
 | .pop=> "list.pop"
 | .index _=> "list.index"
 | .get=> "dict.get"
theorem CT(hA:kl A n)(I:cf cx J H s.heap)(rx:cb J s.heap x vx)(r:cE J s.heap vs vals)(h:wV H b x vs=DJ (v,H')):
  D2 cx.M A (call (.builtin (BO b)) (vx::vals)) (ak cx J s v H') E' s:=by
 have hu:A.units+64<cLine:=by have:=hA.hu;exact bu (nat_lit 407288254993336523200) tt this
 have hu':A.units+70<cLine:=by have:=hA.hu;exact bu (nat_lit 407295010392777578944) tt this
 refine gw h ?_;clear h;rintro k rfl h;refine af rx fun a hJ z3=>?_;clear rx;subst z3;cases b with
 | append=>
  refine dT h ?_;clear h;intro xs hk h;refine eU h ?_;clear h;rintro x rfl h;refine ifs h ?_;clear h;intro q h;refine aW r fun y ys z3 ry z5=>?_;clear r;subst z3;subst z5;refine jB h ?_;exact yo I hJ hk ry q
 | extend=>
  refine dT h ?_;clear h;intro xs hk h;refine eU h ?_;clear h;rintro x rfl h;refine aW r fun y ys z3 ry z5=>?_;clear r;subst z3;subst z5;cases x with
  | tup ys2=>
   refine ifs h ?_;clear h;intro q h;refine dH ry fun t its k2 z4 ho rl htz=>?_;clear ry;subst z4;refine jB h ?_;exact lN (.inr rfl) I hJ hk ho rl q
  | ref b=>
   refine dT h ?_;clear h;intro ys2 hk2 h;refine ifs h ?_;clear h;intro q h;refine af ry fun b2 hJ2 z3=>?_;clear ry;subst z3;refine jB h ?_;refine aW (I.rep.obj _ _ _ hk2 hJ2) fun its k2 ho rl uu=>?_;exact lN (.inl rfl) I hJ hk ho rl q.2
  | _=>exact nO h
 | pop=>
  refine dT h ?_;clear h;intro xs hk h;refine ifs h ?_;clear h;intro q h;obtain rfl:=GN.mp q;refine lY h ?_;clear h;intro w hw e;cases r;refine jP e ?_;exact BK I hJ hk hw
 | index=>
  refine dT h ?_;clear h;intro xs hk h;refine eU h ?_;clear h;rintro x rfl h;refine lY h ?_;clear h;intro j hj e;refine aW r fun y ys z3 ry z5=>?_;clear r;subst z3;subst z5;refine jP e ?_;exact zw hu I ry hJ hk hj
 | get=>
  refine yM h ?_;clear h;intro es hk h;refine uO h ?_;clear h;rintro x d rfl h;refine ifs h ?_;clear h;intro q h;refine aW r fun y ys z3 ry z16=>?_;clear r;subst z3;refine aW z16 fun z zs z73 rz z75=>?_;clear z16;subst z73;subst z75;refine jB h ?_;exact uz hu' I hJ hk ry q rz
set_option tactic.hygienic true in
theorem uC{pl:Sem Bool}{Q:DW × List DW->DQ->Prop}(I:cf cx J H s.heap)(rx:cb J s.heap x vx)(h:r7 H b x=true)(hQ:Q (.builtin (BO b),[vx]) s):
  D2 cx.M A (getMethod vx ⟨(rQ b).toArray⟩ pl) Q E' s:=by
 unfold r7 at h;split at h
 ·refine af rx fun a hJ z3=>?_;clear rx;subst z3;split at h
  ·rename_i xs hk;refine aW (I.rep.obj _ _ _ hk hJ) fun its k2 ho uu uu=>?_;have hT:s.TypeIs (.ref a) "list" :=⟨_,ho,rfl⟩;have hd:∀ a',J8 a= .ref a'->∃ o,s.heap.get? a'=DJ o/\o.dict=none:=by intro a' e;injection e with e;subst e;exact⟨_,ho,rfl⟩
   cases b with
   | append=>exact Gx hT Gm PySem.F.slot_list_append PySem.F.type_list_append hd hQ
   | extend=>exact Gx hT Gm GW PySem.F.type_list_extend hd hQ
   | pop=>exact Gx hT Gm Is PySem.F.type_list_pop hd hQ
   | index=>exact Gx hT Gm HW PySem.F.type_list_index hd hQ
   | get=>exact fT h
  ·rename_i es hk;refine aW (I.rep.obj _ _ _ hk hJ) fun its k2 ho uu uu=>?_;have hT:s.TypeIs (.ref a) "dict" :=⟨_,ho,rfl⟩;have hd:∀ a',J8 a= .ref a'->∃ o,s.heap.get? a'=DJ o/\o.dict=none:=by intro a' e;injection e with e;subst e;exact⟨_,ho,rfl⟩
   cases b with
   | get=>exact Gx hT PySem.F.plainAttrs_dict Ir PySem.F.type_dict_get hd hQ
   | _=>exact fT h
  ·exact fT h
 ·exact fT h
theorem SE.bm(hnm:name.cps.toList=rQ b)(hb:fG xo=true)(hx:xs.all cm=true)(hn:xs.length<20)(hline:(apos.endLine == pos.line)=true)
  (ho:SE cx cl n sc fs cs o xo) (hl:SL cx cl n sc fs cs es xs):SE cx cl n sc fs cs (.bm b o es) (.Call (.Attribute xo name apos) xs [] pos):=by
 intro env A s J H m c v H' Q E' hs hA X e h;refine bN e ?_;intro x H1 e1 e2;dsimp only at e2;have hname:name=⟨(rQ b).toArray⟩:=by cases name;simp only at hnm;refine yB hnm ?_;rfl
 subst hname;refine tw hb hx hn hline (ho.one hs hA X e1 fun va s' J' sm S X' ra=> ?_);split at e2
 ·rename_i hok;refine bN e2 ?_;intro vs H2 e2 e3;refine uC X'.inv ra hok ?_;refine nq rfl hl hx hs hA X' e2 fun vals s'' p=> ?_;refine am p fun sm2 z16=>?_;clear p;refine aM z16 fun J2 S2 I2 rl=>?_;clear z16;exact Fm (CT hA I2 (ra.mono S2) rl e3) (fun val s3 p3=>h _ _ (ak.trans sm S (ak.trans sm2 S2 p3))) fun _ _ z=>z
 ·exact nO e2
noncomputable def SP(cx:Cx)(cl:aR)(n:Nat)(sc:Scope)(fs cs:List DL)(es:List E)(ks:List (Option Expr))(xs:List Expr):Prop:=
 ∀ (env:Env) (A:Around) (s:DQ) (J:Jm) (H:Hp) (m c:aZ) (vs:List AV) (H':Hp) (pos:Pos) (Q:List (DW × DW)->DQ->Prop) (E':DW->DQ->Prop),env.scope=sc->kl A n->kY cx env fs cs m c J H s.heap->
  iP cl es m c H=DJ (vs,H')->(∀ vals s',vp cx J s vs H' (vals.flatMap fun p=>[p.1,p.2]) s'->Q vals s')->D2 cx.M A (evalPairs (pairTrees ks xs env pos)) Q E' s
theorem SP.nil:SP cx cl n sc fs cs [] [] []:=by
 intro env A s J H m c vs H' pos Q E' hs hA X e h;revert h;refine jB e ?_;intro h;exact pairTrees_nil_walk (h [] s ⟨⟨_,_,rfl⟩,J,bV.refl _ _ _,X.inv,rfl⟩)
theorem SP.cons(h0:SE cx cl n sc fs cs k xk)(h1:SE cx cl n sc fs cs e x)(h2:SP cx cl n sc fs cs es ks xs):SP cx cl n sc fs cs (k::e::es) (DJ xk::ks) (x::xs):=by
 intro env A s J H m c vs H' pos Q E' hs hA X e0 h;refine bN e0 ?_;intro vk H1 e1 e0;refine bN e0 ?_;intro vs1 H2 e0 e5;refine bN e0 ?_;intro v H3 e2 e0;refine bN e0 ?_;intro vs2 H4 e3 e4;revert e5;refine jB e4 ?_;intro e5;revert h;refine jB e5 ?_;intro h;refine pairTrees_cons_walk (h0.then h1 hs hA X e1 e2 fun va vb s' J' sm S X' ra rb=> ?_);refine h2 env A s' J' H3 m c vs2 _ pos _ _ hs hA X' e3 fun vals s₂ p=> ?_;refine am p fun sm₂ z16=>?_;clear p;refine aM z16 fun J₂ S₂ I₂ r₂=>?_;clear z16;exact h _ _ ⟨ae sm sm₂,J₂,S.trans S₂,I₂,va,_,rfl,ra.mono S₂,vb,_,rfl,rb.mono S₂,r₂⟩
end
end Mine.Internal
end
section
open PySem PySem.W PyProof.Rows PySem.Calls
namespace Mine.Internal
theorem bV.late{J J2:Jm}{h h2 h3:Heap}{D:Addr}{own:Addr->Prop}(S:bV J J2 h h2 bF)(hD:h.get? D=none)(S2:bV (J2++[D]) (J2++[D]) h2 h3 own)(ho:∀ a,own a->h.get? a=none):bV J (J2++[D]) h h3 bF where
 pre:=S.pre.trans (E9 _ _)
 new:=fun b hb=>by
  rcases DZ.mp hb with q | q
  ·exact S.new b q
  ·refine yF (DT.mp q) ?_;exact .inr hD
 keep:=fun b o e hJ _=>by
  refine S2.keep b o (S.keep b o e hJ fun x=>x) (fun q=> ?_) (fun q=>by rw[ho b q]at e;exact nO e);rcases DZ.mp q with q | q
  ·rcases S.new b q with z | z
   ·exact hJ z
   ·rw[z]at e;exact nO e
  ·rw[DT.mp q,hD]at e;exact nO e
 tup:=fun a its n e=>S2.tup a its n (S.tup a its n e)
 alive:=fun a e=>S2.alive a (S.alive a e)
section
variable {cx:Cx} {cl:aR} {n:Nat} {sc:Scope} {fs cs:List DL} {A:Around} {E':DW->DQ->Prop} {s:DQ} {J:Jm} {H:Hp} {env:Env} {m c:aZ}
theorem ty(h:fz (k::v::r)=DJ ps):bv k=true/\∃ ps',fz r=DJ ps'/\ps=(k,v)::ps':=by
 replace h:(if bv k then (fz r).map ((k,v):: ·) else .none)=DJ ps:=h;by_cases q:bv k=true
 ·rewrite[if_pos q]at h;refine af (Eu.mp h) fun ps' e z3=>?_;clear h;subst z3;exact⟨q,ps',e,rfl⟩
 ·rewrite[if_neg q]at h;exact nO h
theorem mV:∀ (es:List (AV × AV)) (k v:AV),(dz es k v).length<=es.length+1
 | [],_,_=>DV _
 | (a,b)::r,k,v=>by
  have ih:=mV r k v;rewrite[ke];split
  ·simp
  ·simp only[D6];exact bu (nat_lit 397186754211359148707723296) tt ih
theorem tz:∀ vals:List (DW × DW),(vals.flatMap fun p=>[p.1,p.2]).length=2 * vals.length
 | []=>rfl
 | a::r=>by (refine yF Fo ?_;refine DK DU ?_;refine yF (tz r) ?_);simp;exact Eo (dm (nat_lit 12147809244966896089678) tt) (dm (nat_lit 12111461184956655927886) tt)
theorem oY(hA:kl A n):∀ (vals:List (DW × DW)) (vs:List AV) (ps:List (AV × AV)) (es:List (AV × AV)) (s:DQ) (H:Hp) (Q:DQ->Prop),cE J s.heap vs (vals.flatMap fun p=>[p.1,p.2])->fz vs=DJ ps->
  cf cx J H s.heap->J[k]? =DJ a->H[k]? =DJ (.dict es)->es.length+vals.length<bo->
  (∀ s',(∃ h tk,s'={ s with heap:=h,toks:=tk })->bV J J s.heap s'.heap bF->cf cx J (H.set k (.dict (ps.foldl (fun es p=>dz es p.1 p.2) es))) s'.heap->Q s')->
  D2 cx.M A (storeAll a vals) (fun _=>Q) E' s
 | [],vs,ps,es,s,H,Q,r,hp,I,hJ,hk,hz,h=>by
  have hv:vs=[]:=by
   cases vs with
   | nil=>rfl
   | cons x xs=>(refine fL r fun uu uu e uu=>?_;clear r);exact nomatch e
  subst hv;revert h;refine jA hp ?_;intro h;unfold storeAll;dsimp only[Gn];refine DP (h s ⟨_,_,rfl⟩ (bV.refl _ _ _) ?_);have:H.set k (.dict es)=H:=by
   refine aq (DS.mp hk) fun hlt e=>?_;refine yB e ?_;exact List.set_getElem_self hlt
  simp only[Hh];refine yF this ?_;exact I
 | (vk,vv)::r0,vs,ps,es,s,H,Q,r,hp,I,hJ,hk,hz,h=>by
  have hu:A.units+64<cLine:=by have:=hA.hu;exact bu (nat_lit 407288254993336523200) tt this
  match vs,r,hp with
  | [],r,_=>cases r
  | [x],r,_=>(refine aW r fun uu uu e uu q=>?_;clear r);cases q;exact nomatch e
  | xk::xv::vs',r,hp=>
   refine aW r fun uu uu e rk z16=>?_;clear r;refine aW z16 fun uu uu e2 rv rr=>?_;clear z16;cases e;cases e2;refine am (ty hp) fun hkey z16=>?_;refine af z16 fun ps' hp' z73=>?_;clear z16;subst z73;refine cp (I.rep.obj _ _ _ hk hJ) fun ds m0 ho D nd hne=>?_;unfold storeAll;rewrite[GY];simp only[D6]at hz;refine DM (DM (qj hu I hJ ho D nd hne rk hkey rv (bS (nat_lit 12420462655617088) tt hz) fun h' tk ds' n' hs e S D' hn'=>DP ?_));have I':=I.set hJ hs (o':= .dict (dz es xk xv)) ⟨ds',n',e,D',kU nd,hn'⟩;have hlt:=(DS.mp hk).1;have hl2:=mV es xk xv;refine oY hA r0 vs' ps' (dz es xk xv) { s with heap:=h',toks:=tk } _ Q (rr.mono S) hp' I' hJ (Fu hlt) (kt (nat_lit 13704421278515363053274970208) tt hz hl2) fun s' sm S' I2=>h s' (ae ⟨_,_,rfl⟩ sm) (S.trans S') ?_;rw[Ia]at I2;exact I2
theorem SE.dict{es:List E}{ks:List (Option Expr)}{xs:List Expr}{pos:Pos}(hl:SP cx cl n sc fs cs es ks xs)(hall:ks.all (·.isSome)=true)(hlen:ks.length=xs.length)(h0:ks≠[])(hz:ks.length<=15)(hes:es.length<=100):SE cx cl n sc fs cs (.dict es) (.Dict ks xs pos):=by
 intro env A s J H m c v H' Q E' hs hA X e h;refine bN e ?_;intro vs H1 e1 e;refine ka e ?_;intro ps e2 e3;revert h e;refine jB e3 ?_;intro h e;refine wpAny_Dict_any hall hlen h0 hz ?_;have kk:∀ b o,s.heap.get? b=DJ o->(s.heap.push { cls:= .type "dict",data:= .dict #[] }).get? b=DJ o:=fun b o e=>D3 _ e;have X1:kY cx env fs cs m c J H (s.heap.push { cls:= .type "dict",data:= .dict #[] }):=X.step (bV.of_keeps kk) (X.inv.keeps kk);have hg:(s.heap.push { cls:= .type "dict",data:= .dict #[] }).get? s.heap.objs.size=DJ (dictOf [] 0):=Er _ rfl;have hf:=cN s.heap;refine hl env A _ J H m c vs H1 pos _ _ hs hA X1 e1 fun vals s2 p=> ?_;refine am p fun sm2 z16=>?_;clear p;refine aM z16 fun J2 S2 I2 r2=>?_;clear z16;have hD:s.heap.objs.size∉J:=fun q=>X.inv.aliveJ q hf;have hD2:s.heap.objs.size∉J2:=fun q=>(S2.new _ q).elim hD (fun z=>by rw[show (s.heap.push { cls:= .type "dict",data:= .dict #[] }).get? s.heap.objs.size=DJ (dictOf [] 0) from hg]at z;exact oN z);have hg2:=S2.kept hD hg;have Sa:bV J J2 s.heap s2.heap bF:=(bV.of_keeps kk).trans S2;have I3:=I2.adopt (o:= .dict []) hD2 (dQ X.inv hf) (X.inv.above_sys (DV _)) ⟨[],0,hg2,.nil,HM,rfl⟩;have lj:(J2++[s.heap.objs.size])[H1.length]? =DJ s.heap.objs.size:=gx I2.rep.len;have lh:(H1++[AO.dict []])[H1.length]? =DJ (.dict []):=by (refine yF (D9 (DV _)) ?_;refine yF (EH _) ?_);rfl
 have hlen2:vals.length<=100:=by
  have q1:=r2.length;have q2:=tz vals;have q3:=jb e1;exact kt (nat_lit 431890061082531214602248200542659) tt q2 q1 q3 hes
 refine oY (E':=E') hA vals vs ps [] s2 (H1++[.dict []]) (Q (.ref s.heap.objs.size)) (r2.ext (E9 _ _) fun _ _ _ z=>z) e2 I3 lj lh (by simp[bo];exact Ek hlen2 (by decide)) fun s3 sm3 S3 I4=> ?_;refine h _ s3 ⟨ae (ae ⟨_,s.toks,rfl⟩ sm2) sm3,J2++[s.heap.objs.size],Sa.late hf S3 (fun _ x=>x.elim),?_,_,lj,rfl⟩;rw[HE _ _ (DV _),EH]at I4;exact I4
theorem SE.dict0:SE cx cl n sc fs cs (.dict []) (.Dict [] [] pos):=by
 intro env A s J H m c v H' Q E' hs hA X e h;revert h;refine jB e ?_;intro h;with_reducible refine wpAny_Dict_empty ?_
 have kk:∀ b o,s.heap.get? b=DJ o->(s.heap.push { cls:= .type "dict",data:= .dict #[] }).get? b=DJ o:=fun b o e=>D3 _ e;exact h _ _ (ak.push (tk:=s.toks) X.inv kk fun S=>⟨[],0,Er _ rfl,.nil,HM,rfl⟩)
end
end Mine.Internal
end
section
open PySem PySem.W PyProof.Rows PySem.Calls
namespace Mine.Internal
structure j8(env:Env)(h:Heap):Prop where
 ns:∃ mm,h.Ns env.locals mm
 cells:env.func≠none->∀ p∈env.cells,∃ ov,h.IsCell p.2 ov
structure dG(env:Env)(xs:List DL):Prop where
 fn:env.scope.kind= .function
 sep:∀ p∈env.cells,p.2≠env.locals
 kinds:∀ x∈xs,env.kindOf x=DJ .local\/(env.kindOf x=DJ .cell/\(∃ c,env.cells.lookup x=DJ c)/\env.func≠none/\env.cells.Pairwise fun x y=>x.2≠y.2)
 nodup:xs.Nodup
structure eK(cx:Cx)(env:Env)(fs cs:List DL)(m c:aZ)(J:Jm)(H:Hp)(h:Heap):Prop where
 ctx:kY cx env fs cs m c J H h
 fr:j8 env h
theorem j8.step(S:bV J J' h h' bF)(out:∀ a,cD env a->a∉J)(x:j8 env h):j8 env h' where
 ns:=let ⟨mm,o,es,ep,e,r⟩:=x.ns;⟨mm,o,es,ep,S.kept (out _ (.inl rfl)) e,r⟩
 cells:=fun hf p hp=>let ⟨ov,o,e,d⟩:=x.cells hf p hp;⟨ov,o,S.kept (out _ (.inr ⟨p.1,hp⟩)) e,d⟩
theorem eK.step(X:eK cx env fs cs m c J H h)(S:bV J J' h h' bF)(I:cf cx J' H' h'):eK cx env fs cs m c J' H' h':=
 ⟨X.ctx.step S I,X.fr.step S fun a e=>(X.ctx.out a e).1⟩
theorem Ns.notTup{h:Heap}{a:Addr}{mm:DL->Option DW}(N:h.Ns a mm):∀ its n,h.get? a≠DJ (ba its n):=by
 intro its n e;refine tL N fun o es ep q d uu=>?_;clear N;rw[e]at q;revert d;refine jA q ?_;intro d;exact nomatch d
theorem IsCell.notTup{h:Heap}{a:Addr}{ov:Option DW}(N:h.IsCell a ov):∀ its n,h.get? a≠DJ (ba its n):=by
 intro its n e;refine af N fun o q d=>?_;clear N;rw[e]at q;revert d;refine jA q ?_;intro d;exact nomatch d
theorem IsCell.alive{h:Heap}{a:Addr}{ov:Option DW}(N:h.IsCell a ov):h.get? a≠none:=by (refine af N fun o q uu=>?_;clear N);refine yF q ?_;simp
theorem Ns.alive{h:Heap}{a:Addr}{mm:DL->Option DW}(N:h.Ns a mm):h.get? a≠none:=by (refine lb N fun o uu uu q uu=>?_;clear N);refine yF q ?_;simp
theorem bV.sameBut{own:Addr->Prop}(hs:FE a h h')(ho:own a)(ht:∀ its n,h.get? a≠DJ (ba its n))(hal:h'.get? a≠none):bV J J h h' own:=
 ⟨EB,fun _ x=> .inl x,fun b o e _ hn=>(hs.2 b fun q=>hn (q ▸ ho)).trans e,fun b its n e=>(hs.2 b fun q=>ht its n (q ▸ e)).trans e,fun b e=>by
  by_cases q:b=a
  ·refine yF q ?_;exact hal
  ·rewrite[hs.2 b q];exact e⟩
section
variable {cx:Cx} {cl:aR} {n:Nat} {sc:Scope} {fs cs:List DL} {A:Around} {E':DW->DQ->Prop} {s:DQ} {J:Jm} {H:Hp} {env:Env} {m c:aZ}
theorem vu{xs:List DL}{x:DL}{pos:Pos}{val:DW}{Q:Unit->DQ->Prop}(W:dG env xs)(hx:x∈xs)(F:j8 env s.heap)
  (h:∀ h' tk a,FE a s.heap h'->cD env a->(env.kindOf x=DJ .local->a=env.locals)->(∀ its n,s.heap.get? a≠DJ (ba its n))->h'.get? a≠none->ib env h' x val->(∀ y w,y≠x->ib env s.heap y w->ib env h' y w)->j8 env h'->Q () { s with heap:=h',toks:=tk }):
  D2 cx.M A (assign (.Name x pos) env val) Q E' s:=by
 with_reducible refine wpAny_assign_Name ?_
 refine aq F.ns fun mm N=>?_;rcases W.kinds x hx with k | ⟨k,⟨c,hc⟩,hfn,ap⟩
 ·refine wpAny_storeName_local k N (fun h' N' hs=>h h' _ env.locals hs (.inl rfl) (fun _=>rfl) (Ns.notTup N) (Ns.alive N') (.inl ⟨k,_,N',by simp⟩) (fun y w hy v=> ?_) ⟨⟨_,N'⟩,fun hf p hp=> ?_⟩) (by refine yF W.fn ?_;rfl)
  ·rcases v with⟨ky,my,Ny,q⟩ | ⟨ky,c,l,ic⟩
   ·refine .inl ⟨ky,_,N',?_⟩;refine DK (if_neg hy) ?_;refine dH N fun o es ep e1 e2 uu e3=>?_;clear N;refine dH Ny fun o2 es2 ep2 f1 f2 uu f3=>?_;clear Ny;rw[e1]at f1;revert f2;refine jA f1 ?_;intro f2;rw[e2]at f2;injection f2 with f2;subst f2;refine yB (e3 _) ?_;refine DK (f3 _) ?_;exact q
   ·exact .inr ⟨ky,c,l,ic.sameBut hs (W.sep _ (mem_of_lookup l))⟩
  ·refine aq (F.cells hf p hp) fun ov ic=>?_;exact⟨ov,ic.sameBut hs (W.sep p hp)⟩
 ·refine aq (F.cells hfn _ (mem_of_lookup hc)) fun ov ic=>?_;refine wpAny_storeName_cell W.fn k hc ic fun h' ic' hs=>h h' _ c hs (.inr ⟨x,mem_of_lookup hc⟩) (fun z=>by rw[k]at z;exact nomatch z) (IsCell.notTup ic) (IsCell.alive ic') (.inr ⟨.inl k,c,hc,ic'⟩) (fun y w hy v=> ?_) ⟨⟨mm,N.sameBut hs (Hs (W.sep _ (mem_of_lookup hc)))⟩,fun hf p hp=> ?_⟩
  ·rcases v with⟨ky,my,Ny,q⟩ | ⟨ky,c',l,ic2⟩
   ·exact .inl ⟨ky,my,Ny.sameBut hs (Hs (W.sep _ (mem_of_lookup hc))),q⟩
   ·refine .inr ⟨ky,c',l,ic2.sameBut hs fun e=>hy ?_⟩;subst e;exact name_of_addr ap (mem_of_lookup l) (mem_of_lookup hc)
  ·by_cases q:p.2=c
   ·exact⟨DJ val,by refine yF q ?_;exact ic'⟩
   ·refine aq (F.cells hf p hp) fun ov2 ic2=>?_;exact⟨ov2,ic2.sameBut hs q⟩
noncomputable def ir(own:Addr->Prop)(cx:Cx)(env:Env)(fs cs:List DL)(m c:aZ)(J:Jm)(H:Hp)(s:DQ)(s':DQ):Prop:=
 (∃ h tk,s'={ s with heap:=h,toks:=tk })/\bV J J s.heap s'.heap own/\eK cx env fs cs m c J H s'.heap
theorem ir.trans{own:Addr->Prop}(x:ir own cx env fs cs m' c' J H s s')(y:ir own cx env fs cs m'' c'' J H s' s''):ir own cx env fs cs m'' c'' J H s s'':=
 ⟨ae x.1 y.1,x.2.1.trans y.2.1,y.2.2⟩
theorem kY.store_base{own:Addr->Prop}(X:kY cx env fs cs m c J H h)(hs:FE a h h')(ea:cD env a)(ho:own a)(ht:∀ its n,h.get? a≠DJ (ba its n))(hal:h'.get? a≠none):
  cf cx J H h'/\bV J J h h' own/\(∀ b,cD env b->b∉J/\h'.get? b≠none/\cx.hb.get? b=none)/\(∀ v val,cb J h v val->cb J h' v val):=by
 have S:bV J J h h' own:=bV.sameBut hs ho ht hal;exact⟨X.inv.own hs (X.out a ea).1 (X.out a ea).2.2 ht,S,fun b eb=>⟨(X.out b eb).1,S.alive b (X.out b eb).2.1,(X.out b eb).2.2⟩,fun v val r=>r.mono S⟩
theorem uD{Q:Unit->DQ->Prop}(W:dG env fs)(hi:fs[i]? =DJ x)(X:eK cx env fs [] m [] J H s.heap)(r:cb J s.heap v val)
  (h:∀ s',ir (cD env) cx env fs [] (m.set i (DJ v)) [] J H s s'->Q () s'):D2 cx.M A (assign (.Name x pos) env val) Q E' s:=by
 refine vu W (D8 hi) X.fr fun h' tk a hs ea hloc ht hal hv hy hF=>h _ ?_;refine eQ (X.ctx.store_base (own:=cD env) hs ea ea ht hal) fun I S out mono=>?_;refine⟨⟨h',tk,rfl⟩,S,⟨I,X.ctx.fn,X.ctx.gl,X.ctx.bi,out,fun j y w hj _ hm=> ?_,fun j y w hj _=>by simp at hj,rfl,X.ctx.cel⟩,hF⟩;by_cases q:i=j
 ·subst q;rw[hi]at hj;refine jA hj ?_;have hlt:i<m.length:=by
   have:=(DS.mp hm).1;rwa [Fw]at this
  rw[Fu hlt]at hm;cases hm;exact⟨val,mono _ _ r,hv⟩
 ·rw[F8 q]at hm;refine af (X.ctx.fv j y w hj (fun z=>absurd rfl z) hm) fun val' r' v'=>?_;refine⟨val',mono _ _ r',hy y val' (fun e=>q ?_) v'⟩;subst e;refine aq (DS.mp hi) fun h1 e1=>?_;refine aq (DS.mp hj) fun h2 e2=>?_;exact (Hj W.nodup).mp (e1.trans e2.symm)
theorem vw{Q:Unit->DQ->Prop}(W:dG env cs)(hcs:∀ y∈cs,env.kindOf y=DJ .local)(hne:cs≠[])(hi:cs[i]? =DJ x)(X:eK cx env fs cs m c J H s.heap)(r:cb J s.heap v val)
  (h:∀ s',ir (fun a=>a=env.locals) cx env fs cs m (c.set i (DJ v)) J H s s'->Q () s'):D2 cx.M A (assign (.Name x pos) env val) Q E' s:=by
 refine vu W (D8 hi) X.fr fun h' tk a hs ea hloc ht hal hv hy hF=>h _ ?_;refine eQ (X.ctx.store_base (own:=fun a=>a=env.locals) hs ea (hloc (hcs x (D8 hi))) ht hal) fun I S out mono=>?_;have hx:=hcs x (D8 hi);refine⟨⟨h',tk,rfl⟩,S,⟨I,X.ctx.fn,X.ctx.gl,X.ctx.bi,out,fun j y w hj hf hm=> ?_,fun j y w hj hm=> ?_,by refine DK Fw ?_;exact X.ctx.len,X.ctx.cel⟩,hF⟩
 ·refine af (X.ctx.fv j y w hj hf hm) fun val' r' v'=>?_;refine⟨val',mono _ _ r',hy y val' (fun e=> ?_) v'⟩;subst e;rcases hf hne with z | z<;>rw[hx]at z<;>exact nomatch z
 ·by_cases q:i=j
  ·subst q;rw[hi]at hj;refine jA hj ?_;have hlt:i<c.length:=by
    have:=(DS.mp hm).1;rwa [Fw]at this
   rw[Fu hlt]at hm;cases hm;exact⟨val,mono _ _ r,hv⟩
  ·rw[F8 q]at hm;refine af (X.ctx.cv j y w hj hm) fun val' r' v'=>?_;refine⟨val',mono _ _ r',hy y val' (fun e=>q ?_) v'⟩;subst e;refine aq (DS.mp hi) fun h1 e1=>?_;refine aq (DS.mp hj) fun h2 e2=>?_;exact (Hj W.nodup).mp (e1.trans e2.symm)
noncomputable def lR(xs:List DL):List Nat->List Expr->Bool
 | [],[]=>true
 | i::is,.Name x _::ts=>xs[i]? == DJ x&&lR xs is ts
 | _,_=>false
noncomputable def ew(xs:List DL):rW->Expr->Bool
 | .one i,.Name x _=>xs[i]? == DJ x
 | .many is,.Tuple ts _ _=>lR xs is ts
 | _,_=>false
set_option tactic.hygienic true in
theorem jc:∀ {is:List Nat} {ts:List Expr},lR fs is ts=true->(assignEach ts env).length=is.length/\(assignEach ts env).findIdx? (·.1)=none
 | [],[],_=>⟨rfl,rfl⟩
 | i::is,t::ts,h=>by
  cases t<;>first | exact fT h;done | skip
  rename_i x p;replace h:=(Eb _ _).mp h;refine am (jc h.2) fun h1 h2=>?_;have e:assignEach (.Name x p::ts) env=(false,assign (.Name x p) env)::assignEach ts env:=rfl;refine yF e ?_;exact⟨by simp[h1],by simp[Kf,h2]⟩
 | [],_::_,h=>by exact fT h
 | _::_,[],h=>by exact fT h
theorem ie(h:eV c (i::is) (v::vs)=DJ r):eV (c.set i (DJ v)) is vs=DJ r:=by
 exact ifs h fun _ h=>h
set_option tactic.hygienic true in
theorem qm(W:dG env fs):∀ {is:List Nat} {ts:List Expr} {vs:List AV} {vals:List DW} {m m':aZ} {s:DQ} {Q:Unit->DQ->Prop},lR fs is ts=true->eV m is vs=DJ m'->eK cx env fs [] m [] J H s.heap->cE J s.heap vs vals->
  (∀ s',ir (cD env) cx env fs [] m' [] J H s s'->Q () s')->D2 cx.M A (assignInOrder ((assignEach ts env).map (·.2)) vals) Q E' s
 | [],[],vs,vals,m,m',s,Q,_,hv,X,r,h=>by
  cases vs with
  | nil=>(revert X;refine jR hv ?_;intro X);exact DP (h s ⟨⟨_,_,rfl⟩,bV.refl _ _ _,X⟩)
  | cons _ _=>exact nO hv
 | i::is,t::ts,vs,vals,m,m',s,Q,hn,hv,X,r,h=>by
  cases t<;>first | exact fT hn;done | skip
  rename_i x p;replace hn:=(Eb _ _).mp hn;rw[beq_iff_eq]at hn;cases vs with
  | nil=>exact nO hv
  | cons v vs=>
   refine aW r fun y ys z3 ry rs=>?_;clear r;subst z3;refine assignInOrder_cons (uD W hn.1 X ry fun s' hst=> ?_);exact qm W hn.2 (ie hv) hst.2.2 (rs.mono hst.2.1) fun s'' h2=>h s'' (hst.trans h2)
 | [],_::_,_,_,_,_,_,_,hn,_,_,_,_=>by exact fT hn
 | _::_,[],_,_,_,_,_,_,hn,_,_,_,_=>by exact fT hn
set_option tactic.hygienic true in
theorem oZ(W:dG env cs)(hcs:∀ y∈cs,env.kindOf y=DJ .local)(hne:cs≠[]):∀ {is:List Nat} {ts:List Expr} {vs:List AV} {vals:List DW} {c c':aZ} {s:DQ} {Q:Unit->DQ->Prop},lR cs is ts=true->eV c is vs=DJ c'->eK cx env fs cs m c J H s.heap->cE J s.heap vs vals->
  (∀ s',ir (fun a=>a=env.locals) cx env fs cs m c' J H s s'->Q () s')->D2 cx.M A (assignInOrder ((assignEach ts env).map (·.2)) vals) Q E' s
 | [],[],vs,vals,m,m',s,Q,_,hv,X,r,h=>by
  cases vs with
  | nil=>(revert X;refine jR hv ?_;intro X);exact DP (h s ⟨⟨_,_,rfl⟩,bV.refl _ _ _,X⟩)
  | cons _ _=>exact nO hv
 | i::is,t::ts,vs,vals,m,m',s,Q,hn,hv,X,r,h=>by
  cases t<;>first | exact fT hn;done | skip
  rename_i x p;replace hn:=(Eb _ _).mp hn;rw[beq_iff_eq]at hn;cases vs with
  | nil=>exact nO hv
  | cons v vs=>
   refine aW r fun y ys z3 ry rs=>?_;clear r;subst z3;refine assignInOrder_cons (vw W hcs hne hn.1 X ry fun s' hst=> ?_);exact oZ W hcs hne hn.2 (ie hv) hst.2.2 (rs.mono hst.2.1) fun s'' h2=>h s'' (hst.trans h2)
 | [],_::_,_,_,_,_,_,_,hn,_,_,_,_=>by exact fT hn
 | _::_,[],_,_,_,_,_,_,hn,_,_,_,_=>by exact fT hn
theorem tA(hs:G6 h.objs.size h h'):∀ b o,h.get? b=DJ o->h'.get? b=DJ o:=fun b o e=>hs b o (D4 (FF e)) e
set_option tactic.hygienic true in
theorem jO{Q:Unit->DQ->Prop}(hh:A.handled=none)(W:dG env fs)(ht:ew fs t x=true)(hb:bp m t v=DJ m')(X:eK cx env fs [] m [] J H s.heap)(r:cb J s.heap v val)
  (h:∀ s',ir (cD env) cx env fs [] m' [] J H s s'->Q () s'):D2 cx.M A (assign x env val) Q E' s:=by
 cases t with
 | one i=>
  cases x<;>first | exact fT ht;done | skip
  unfold ew at ht;rw[beq_iff_eq]at ht;simp only[vK]at hb;split at hb
  ·revert h;refine jA hb ?_;intro h;exact uD W ht X r h
  ·exact nO hb
 | many is=>
  cases x<;>first | exact fT ht;done | skip
  rename_i ts k p;simp only[bp]at hb;split at hb
  ·refine dH r fun a its q z4 ho rl hz=>?_;clear r;subst z4;refine am (jc (env:=env) ht) fun l1 l2=>?_;have hlen:=rl.length;have hsl:∀ {c:aZ} {is:List Nat} {vs:List AV} {r:aZ},eV c is vs=DJ r->is.length=vs.length:=by
    intro c is;induction is generalizing c with
    | nil=>intro vs r e;cases vs with | nil=>rfl | cons _ _=>exact nO e
    | cons i is ih=>intro vs r e;cases vs with | nil=>exact nO e | cons v vs=>simp[ih (ie e)]
   have:=hsl hb;simp only[Ej]at hlen;refine Jt hh ⟨_,ho,rfl,_,rfl⟩ (Eo (kt (nat_lit 361427133361370209) tt l1 this hlen) (kt (nat_lit 361427133393908833) tt hlen this l1)) l2 fun h' hs=> ?_;have kk:=tA hs;have X':eK cx env fs [] m [] J H ({ s with heap:=h' }:DQ).heap:=X.step (bV.of_keeps kk) (X.ctx.inv.keeps kk);refine qm W ht hb X' (rl.mono (bV.of_keeps (own:=bF) kk)) fun s' hst=>h s' ⟨ae ⟨_,s.toks,rfl⟩ hst.1,(bV.of_keeps kk).trans hst.2.1,hst.2.2⟩
  ·exact nO hb
set_option tactic.hygienic true in
theorem wD{Q:Unit->DQ->Prop}(hh:A.handled=none)(W:dG env cs)(hcs:∀ y∈cs,env.kindOf y=DJ .local)(hne:cs≠[])(ht:ew cs t x=true)(hb:bp c t v=DJ c')(X:eK cx env fs cs m c J H s.heap)(r:cb J s.heap v val)
  (h:∀ s',ir (fun a=>a=env.locals) cx env fs cs m c' J H s s'->Q () s'):D2 cx.M A (assign x env val) Q E' s:=by
 cases t with
 | one i=>
  cases x<;>first | exact fT ht;done | skip
  unfold ew at ht;rw[beq_iff_eq]at ht;simp only[vK]at hb;split at hb
  ·revert h;refine jA hb ?_;intro h;exact vw W hcs hne ht X r h
  ·exact nO hb
 | many is=>
  cases x<;>first | exact fT ht;done | skip
  rename_i ts k p;simp only[bp]at hb;split at hb
  ·refine dH r fun a its q z4 ho rl hz=>?_;clear r;subst z4;refine am (jc (env:=env) ht) fun l1 l2=>?_;have hlen:=rl.length;have hsl:∀ {c:aZ} {is:List Nat} {vs:List AV} {r:aZ},eV c is vs=DJ r->is.length=vs.length:=by
    intro c is;induction is generalizing c with
    | nil=>intro vs r e;cases vs with | nil=>rfl | cons _ _=>exact nO e
    | cons i is ih=>intro vs r e;cases vs with | nil=>exact nO e | cons v vs=>simp[ih (ie e)]
   have:=hsl hb;simp only[Ej]at hlen;refine Jt hh ⟨_,ho,rfl,_,rfl⟩ (Eo (kt (nat_lit 361427133361370209) tt l1 this hlen) (kt (nat_lit 361427133393908833) tt hlen this l1)) l2 fun h' hs=> ?_;have kk:=tA hs;have X':eK cx env fs cs m c J H ({ s with heap:=h' }:DQ).heap:=X.step (bV.of_keeps kk) (X.ctx.inv.keeps kk);refine oZ W hcs hne ht hb X' (rl.mono (bV.of_keeps (own:=bF) kk)) fun s' hst=>h s' ⟨ae ⟨_,s.toks,rfl⟩ hst.1,(bV.of_keeps kk).trans hst.2.1,hst.2.2⟩
  ·exact nO hb
end
end Mine.Internal
end
section
open PySem PySem.W PyProof.Rows PySem.Calls
namespace Mine.Internal
noncomputable def g6(vs:List AV)(gd:Option (Nat × AO))(I:Addr)(i:Nat)(J:Jm)(h:Heap):Prop:=
 (∃ k a,gd=DJ (k,.list vs)/\J[k]? =DJ a/\h.IsListIter I a i)\/
 (∃ t its q,gd=none/\h.get? t=DJ (ba its q)/\cE J h vs its.toList/\h.IsTupleIter I t i)\/
 (∃ k a es,gd=DJ (k,.dict es)/\es.all iE=true/\vs=es.map (·.1)/\J[k]? =DJ a/\h.IsKeyIter I a i es.length es.length)\/
 (∃ nn:Nat,gd=none/\nn<bo/\vs=(Ec nn).map (fun (j:Nat)=>AV.int j)/\IsRangeIter h I i ((nn:Int) - i) 1)
theorem g6.obj(x:g6 vs gd I i J h):∃ o T fs,h.get? I=DJ o/\o.cls= .type T/\o.data= .fields fs/\
  ["enumerate","zip","dict_itemiterator","dict_reverseitemiterator","odict_iterator","itertools.zip_longest","itertools.pairwise"].contains T=false:=by
 rcases x with⟨k,a,_,_,o,e,c,d⟩ | ⟨t,its,q,_,_,_,o,e,c,d⟩ | ⟨k,a,es,_,_,_,_,o,e,c,d⟩ | ⟨nn,_,_,_,e⟩
 ·exact⟨o,_,_,e,c,d,by decide⟩
 ·exact⟨o,_,_,e,c,d,by decide⟩
 ·exact⟨o,_,_,e,c,d,by decide⟩
 ·exact⟨_,_,_,e,rfl,rfl,by decide⟩
theorem g6.notTup(x:g6 vs gd I i J h):∀ its n,h.get? I≠DJ (ba its n):=by
 refine dH x.obj fun o T fs e c d uu=>?_;intro its n q;rw[e]at q;revert d;refine jR q ?_;intro d;exact nomatch d
theorem g6.alive(x:g6 vs gd I i J h):h.get? I≠none:=by
 refine dH x.obj fun o T fs e c d uu=>?_;refine yF e ?_;simp
theorem g6.ext(x:g6 vs gd I i J h)(p:J <+: J')(t:∀ a its n,h.get? a=DJ (ba its n)->h'.get? a=DJ (ba its n))(e:∀ o,h.get? I=DJ o->h'.get? I=DJ o):g6 vs gd I i J' h':=by
 rcases x with⟨k,a,h1,h2,o,h3,r⟩ | ⟨tt,its,q,h1,h2,h3,o,h4,r⟩ | ⟨k,a,es,h1,h2,h3,h4,o,h5,r⟩ | ⟨nn,h1,h2,h3,h4⟩
 ·exact .inl ⟨k,a,h1,dP p h2,o,e o h3,r⟩
 ·exact .inr (.inl ⟨tt,its,q,h1,t _ _ _ h2,h3.ext p t,o,e o h4,r⟩)
 ·exact .inr (.inr (.inl ⟨k,a,es,h1,h2,h3,dP p h4,o,e o h5,r⟩))
 ·exact .inr (.inr (.inr ⟨nn,h1,h2,h3,e _ h4⟩))
theorem lS(h:av H (DJ (k,o))=true):H[k]? =DJ o:=by
 unfold av at h;exact @of_decide_eq_true _ (Classical.propDecidable _) h
theorem wE:∀ {es:List (AV × AV)} {ds:List DictEntry},dX w J h es ds->es.all iE=true->
  ∃ kvs:List (DL × DW),Pairs (Gw prog w) ds kvs/\kvs.length=es.length/\(∀ (i:Nat) k x,kvs[i]? =DJ (k,x)->∃ s v,es[i]? =DJ (.str s,v)/\k=⟨s.toArray⟩/\∀ c∈s,c<1114112)/\(∀ e∈ds,∃ k,(Gw prog w).is k e.key=true/\e.hash=(Gw prog w).hash k):=by
 intro es ds d;induction d with
 | nil=>exact fun _=>⟨[],.nil,rfl,fun i k x e=>nO e,fun e m=>by cases m⟩
 | @cons k v hs key val _ _ hk rk rv hh r ih=>
  intro ha;rw[FD,Eb]at ha;refine fu (ih ha.2) fun kvs p l g ko=>?_;cases k with
  | str s=>
   refine am rk fun hc z16=>?_;clear rk;refine aq z16 fun t z72=>?_;clear z16;subst z72;refine⟨(⟨s.toArray⟩,val)::kvs,.cons (Ka prog w _ t) rfl p,by simp[l],fun i k x e=> ?_,fun e m=> ?_⟩
   ·cases i with
    | zero=>simp only[EL,D7,Fp]at e;exact⟨s,v,rfl,e.1.symm,hc⟩
    | succ j=>simp only[F0]at e ⊢;exact g j k x e
   ·cases m with
    | head=>exact ⟨⟨s.toArray⟩,Ka prog w _ t,hh⟩
    | tail _ m=>exact ko e m
  | _=>cases ha.1
theorem wF:∀ {l:List α},l.Nodup->∀ {i j:Nat} {x:α},l[i]? =DJ x->l[j]? =DJ x->i=j:=by
 intro l h i j x a b;refine aq (DS.mp a) fun h1 e1=>?_;refine aq (DS.mp b) fun h2 e2=>?_;exact (Hj h).mp (e1.trans e2.symm)
theorem rR{cx:Cx}{J:Jm}{H:Hp}{h:Heap}{k:Nat}{a:Addr}{es:List (AV × AV)}(I:cf cx J H h)(hJ:J[k]? =DJ a)(hk:H[k]? =DJ (.dict es))(hs:es.all iE=true):
  ∃ kvs:List (DL × DW),h.DictAt (Gw cx.prog cx.w) a kvs es.length/\kvs.length=es.length/\(∀ (i:Nat) k x,kvs[i]? =DJ (k,x)->∃ s v,es[i]? =DJ (.str s,v)/\k=⟨s.toArray⟩/\∀ c∈s,c<1114112):=by
 refine cp (I.rep.obj _ _ _ hk hJ) fun ds n ho D nd z6=>?_;subst z6;refine fu (wE (prog:=cx.prog) D hs) fun kvs p l g ko=>?_;refine⟨kvs,⟨_,ds.toArray,ho,⟨rfl,rfl,rfl⟩,rfl,fun e m=>ko e (by simpa using m),by simpa using p,?_⟩,l,g⟩;refine H6.mpr ?_;intro i j hi hj hij e;rw[DR]at hi hj;have gi:=g i kvs[i].1 kvs[i].2 (by (refine DK (Em hi) ?_;rfl));have gj:=g j kvs[j].1 kvs[j].2 (by (refine DK (Em hj) ?_;rfl));refine aW gi fun s1 v1 e1 k1 uu=>?_;clear gi;refine aW gj fun s2 v2 e2 k2 uu=>?_;clear gj;simp only[List.getElem_map]at e;have:s1=s2:=vm (by (refine yB k1 ?_;refine DK ?_ k2;refine DK e ?_;rfl));subst this;have:=wF nd (i:=i) (j:=j) (x:= .str s1) (by (refine DK DX ?_;refine yF e1 ?_);rfl) (by (refine DK DX ?_;refine yF e2 ?_);rfl);exact Gc 0 (bu (nat_lit 12591066788896) tt hij this)
section
variable {cx:Cx} {cl:aR} {n:Nat} {sc:Scope} {fs cs:List DL} {A:Around} {E':DW->DQ->Prop} {s:DQ} {J:Jm} {H:Hp} {env:Env} {m c:aZ}
set_option backward.match.sparseCases true in
theorem o0{Q:Unit->DQ->Prop}(x:g6 vs gd I i J s.heap)(h:Q () s):D2 cx.M A (letOwnedTupleGo target (.ref I) val) Q E' s:=by
 refine dH x.obj fun o T fs e c d hT=>?_;have go:∀ a,D2 cx.M A (do
   let o <- load I
   match o.cls,o.data with
   | .type n,.fields vs=>
    if ["enumerate","zip","dict_itemiterator","dict_reverseitemiterator","odict_iterator","itertools.zip_longest","itertools.pairwise"].contains n&&vs[0]? == DJ (rawInt a) then
     rule "for.unpacks-the-owned-tuple"
     updateField I 0 .none
   | _,_=>pure ()) Q E' s:=by
  intro a;refine DM (wpAny_load e ?_);refine yF c ?_;refine yF d ?_;show D2 _ A (if (["enumerate","zip","dict_itemiterator","dict_reverseitemiterator","odict_iterator","itertools.zip_longest","itertools.pairwise"].contains T&&fs[0]? == DJ (rawInt a))=true then _ else _) Q E' s;refine yF hT ?_;refine yF (K4 _) ?_;refine yF (if_neg EY) ?_;exact DP h
 unfold letOwnedTupleGo;cases target<;>first
  | exact DP h
  | (cases val<;>first | exact DP h | exact go _)
theorem vz{Q:DW->DQ->Prop}(x:g6 vs gd I i J s.heap)(h:Q (.ref I) s):D2 cx.M A (pyIter (.ref I)) Q E' s:=by
 rcases x with⟨k,a,_,_,it⟩ | ⟨t,its,q,_,_,_,it⟩ | ⟨k,a,es,_,_,_,_,it⟩ | ⟨nn,_,_,_,it⟩
 ·exact wpAny_pyIter_listiter it h
 ·exact wpAny_pyIter_tupleiter it h
 ·exact wpAny_pyIter_keyiter it h
 ·exact wpAny_pyIter_rangeiter it h
theorem rS{vs:List AV}{gd:Option (Nat × AO)}{I:Addr}{i:Nat}{v:AV}{Q:Option DW->DQ->Prop}(Iv:cf cx J H s.heap)(x:g6 vs gd I i J s.heap)(hg:av H gd=true)(hI:I∉J)(hv:vs[i]? =DJ v)
  (h:∀ val h' tk,FE I s.heap h'->g6 vs gd I (i+1) J h'->cb J h' v val->Q (DJ val) { s with heap:=h',toks:=tk }):D2 cx.M A (pyNext (.ref I)) Q E' s:=by
 have nt:=x.notTup;have tt:∀ {h':Heap},FE I s.heap h'->∀ a its n,s.heap.get? a=DJ (ba its n)->h'.get? a=DJ (ba its n):=fun hs a its n e=>(hs.2 a fun q=>nt its n (q ▸ e)).trans e;rcases x with⟨k,a,h1,h2,it⟩ | ⟨t,its,q,h1,h2,h3,it⟩ | ⟨k,a,es,h1,h2,h3,h4,it⟩ | ⟨nn,h1,h2,h3,it⟩
 ·subst h1;refine aW (Iv.rep.obj _ _ _ (lS hg) h2) fun its q ho rl hz=>?_;refine af (rl.get hv) fun val e r=>?_;refine wpAny_pyNext_list_item it ⟨_,ho,rfl,_,rfl⟩ (x:=val) (by simpa using e) fun h' it' hs=> ?_;exact h val h' s.toks hs (.inl ⟨k,a,rfl,h2,it'⟩) (r.ext EB (tt hs))
 ·refine af (h3.get hv) fun val e r=>?_;refine wpAny_pyNext_tuple_item it ⟨_,h2,rfl,_,rfl⟩ (x:=val) (by simpa using e) fun h' it' hs=> ?_;exact h val h' s.toks hs (.inr (.inl ⟨t,its,q,h1,tt hs _ _ _ h2,h3.ext EB (tt hs),it'⟩)) (r.ext EB (tt hs))
 ·subst h1;refine aM (rR Iv h4 (lS hg) h2) fun kvs D l g=>?_;subst h3;rw[DX]at hv;simp only[Eu]at hv;refine af hv fun p hp z3=>?_;clear hv;subst z3;have hlt:i<kvs.length:=by refine yF l ?_;exact (DS.mp hp).1
  have hx:kvs[i]? =DJ (kvs[i].1,kvs[i].2):=by (refine DK (Em hlt) ?_;rfl)
  refine aW (g i _ _ hx) fun sn v2 e2 k2 hc=>?_;rw[hp]at e2;revert h;refine jR e2 ?_;intro h;refine wpAny_pyNext_dict_item (knd:=Gw cx.prog cx.w) (ep:=es.length) (by refine yF l ?_;exact it) D hx fun key h' hk it' hs=> ?_;have hk':Value.isStrOf kvs[i].1 key=true:=hk;refine aq (Value.isStrOf_shape hk') fun t z2=>?_;subst z2;rw[k2]at hk' ⊢;exact h _ h' s.toks hs (.inr (.inr (.inl ⟨k,a,es,rfl,h2,rfl,h4,by rw[l]at it';exact it'⟩))) ⟨hc,t,rfl⟩
 ·have hlt:=(DS.mp hv).1;rw[h3]at hlt hv;simp only[DR,E8]at hlt;rw[DX,Ff hlt]at hv;revert h;refine jA hv ?_;intro h;refine wpAny_pyNext_range_item it (by lia) fun h' it' hs=> ?_;refine h _ h' _ hs (.inr (.inr (.inr ⟨nn,h1,h2,h3,?_⟩))) ⟨_,rfl⟩;have e1:((i+1:Nat):Int)=(i:Int)+1:=Kr _ _;have e2:(nn:Int) - ((i+1:Nat):Int)=(nn:Int) - i - 1:=by lia
  refine yF e2 ?_;refine yF e1 ?_;exact it'
theorem yt{vs:List AV}{gd:Option (Nat × AO)}{I:Addr}{i:Nat}{Q:Option DW->DQ->Prop}(hh:A.handled=none)(Iv:cf cx J H s.heap)(x:g6 vs gd I i J s.heap)(hg:av H gd=true)(hv:vs.length<=i)
  (h:∀ h' tk,G6 I s.heap h'->Q none { s with heap:=h',toks:=tk }):D2 cx.M A (pyNext (.ref I)) Q E' s:=by
 rcases x with⟨k,a,h1,h2,it⟩ | ⟨t,its,q,h1,h2,h3,it⟩ | ⟨k,a,es,h1,h2,h3,h4,it⟩ | ⟨nn,h1,h2,h3,it⟩
 ·subst h1;refine aW (Iv.rep.obj _ _ _ (lS hg) h2) fun its q ho rl hz=>?_;have hl:=rl.length;simp only[Ej]at hl;exact wpAny_pyNext_list_end hh it ⟨_,ho,rfl,_,rfl⟩ (by (rewrite[Ih];rfl);exact bS (nat_lit 11029880776738) tt hl hv) fun h' hs=>h h' s.toks hs
 ·have hl:=h3.length;simp only[Ej]at hl;exact wpAny_pyNext_tuple_end hh it ⟨_,h2,rfl,_,rfl⟩ (by (rewrite[Ih];rfl);exact bS (nat_lit 11029880776738) tt hl hv) fun h' hs=>h h' s.toks hs
 ·subst h1;refine aM (rR Iv h4 (lS hg) h2) fun kvs D l g=>?_;subst h3;rw[DR]at hv;exact wpAny_pyNext_dict_end (knd:=Gw cx.prog cx.w) (ep:=es.length) hh (by refine yF l ?_;exact it) D (by (rewrite[EN];rfl);exact bS (nat_lit 11029880776738) tt l hv) fun h' hs=>h h' s.toks hs
 ·subst h3;simp only[DR,E8]at hv;exact wpAny_pyNext_range_end hh it (by lia) fun h' hs=>h h' s.toks hs
noncomputable def wG(cx:Cx)(A:Around)(E':DW->DQ->Prop)(vs:List AV)(gd:Option (Nat × AO))(J:Jm)(xv:DW)(s:DQ):Prop:=
 ∀ Q:DW->DQ->Prop,(∀ I h',I=s.heap.objs.size->(∀ b o,s.heap.get? b=DJ o->h'.get? b=DJ o)->g6 vs gd I 0 J h'->Q (.ref I) { s with heap:=h' })->D2 cx.M A (pyIter xv) Q E' s
noncomputable def SI(cx:Cx)(cl:aR)(n:Nat)(sc:Scope)(fs cs:List DL)(rng:Bool)(e:E)(x:Expr):Prop:=
 ∀ (env:Env) (A:Around) (s:DQ) (J:Jm) (H:Hp) (m c:aZ) (y:AV) (H':Hp) (vs:List AV) (gd:Option (Nat × AO)) (Q:DW->DQ->Prop) (E':DW->DQ->Prop),env.scope=sc->kl A n->kY cx env fs cs m c J H s.heap->
  aC cl e m c H=DJ (y,H')->bZ H' rng y=DJ (vs,gd)->
  (∀ xv s' J',(∃ h tk,s'={ s with heap:=h,toks:=tk })->bV J J' s.heap s'.heap bF->cf cx J' H' s'.heap->wG cx A E' vs gd J' xv s'->Q xv s')->D2 cx.M A (eval x env) Q E' s
set_option tactic.hygienic true in
theorem SI.plain{e:E}{x:Expr}(he:SE cx cl n sc fs cs e x):SI cx cl n sc fs cs false e x:=by
 intro env A s J H m c y H' vs gd Q E' hs hA X e1 e2 h;refine he.one hs hA X e1 fun va s' J' sm S X' ra=>h va s' J' sm S X'.inv ?_;intro Q2 hQ;have Iv:=X'.inv;cases y with
 | tup vs=>
  revert hQ;refine jB e2 ?_;intro hQ;refine dH ra fun a its q z4 ho rl hz=>?_;clear ra;subst z4;have kk:∀ b o,s'.heap.get? b=DJ o->(s'.heap.push { cls:= .type "tuple_iterator",data:= .fields #[.ref a,.int 0 0] }).get? b=DJ o:=fun b o e=>D3 _ e;refine HA ⟨_,ho,rfl,_,rfl⟩ (hQ _ _ rfl kk (.inr (.inl ⟨a,its,q,rfl,kk _ _ ho,rl.mono (bV.of_keeps (own:=bF) kk),_,Er _ rfl,rfl,rfl⟩)))
 | ref k=>
  refine af ra fun a hJ z3=>?_;clear ra;subst z3;rw[l7]at e2;split at e2
  ·rename_i vs hk;revert hQ;refine jB e2 ?_;intro hQ;refine aW (Iv.rep.obj _ _ _ hk hJ) fun its q ho rl hz=>?_;have kk:∀ b o,s'.heap.get? b=DJ o->(s'.heap.push { cls:= .type "list_iterator",data:= .fields #[.ref a,.int 0 0] }).get? b=DJ o:=fun b o e=>D3 _ e;exact wpAny_pyIter_list ⟨_,ho,rfl,_,rfl⟩ (hQ _ _ rfl kk (.inl ⟨k,a,rfl,hJ,_,Er _ rfl,rfl,rfl⟩))
  ·rename_i es hk;split at e2
   ·rename_i hstr;revert hQ;refine jB e2 ?_;intro hQ;refine aM (rR Iv hJ hk hstr) fun kvs D l g=>?_;refine wpAny_pyIter_dict (knd:=Gw cx.prog cx.w) (Iv.notSys hJ) D ?_;refine yF l ?_;exact hQ _ _ rfl (fun b o e=>D3 _ e) (.inr (.inr (.inl ⟨k,a,es,rfl,hstr,rfl,hJ,_,Er _ rfl,rfl,rfl⟩)))
   ·exact nO e2
  ·exact nO e2
 | _=>exact nO e2
theorem SI.range(hC:f7 cx){e:E}{xe:Expr}{id:DL}{p pos:Pos}(hk:sc.names.lookup id=DJ .globalImplicit)(hd:(id == ("__debug__" :DL))=false)(hg:cx.mg id=none/\bootBuiltins id=DJ (.type "range")/\id≠ "__name__")
  (he:SE cx cl n sc fs cs e xe) (hx:cm xe=true):SI cx cl n sc fs cs true e (.Call (.Name id p) [xe] [] pos):=by
 intro env A s J H m c y H' vs gd Q E' hs hA X e1 e2 h;refine Call_ (j7 hC X (by subst hs;exact hk) hg.1 hg.2.1 hg.2.2 hd ?_);have hev:iP cl [e] m c H=DJ ([y],H'):=by
  exact bs e1 rfl
 refine nq rfl (SL.cons he SL.nil hx) (by (dsimp only[FD];refine yF hx ?_);rfl) hs hA X hev fun vals s' p=> ?_;refine am p fun sm z16=>?_;clear p;refine aM z16 fun J' S Iv r=>?_;clear z16;refine aW r fun va uu z3 ry z5=>?_;clear r;subst z3;subst z5;refine cU e2 ?_;clear e2;rintro nI rfl e2;refine ifs e2 ?_;clear e2;intro hz e2
 ·
   revert h;refine jB e2 ?_;intro h;refine aq ry fun t z2=>?_;clear ry;subst z2;refine call_range_1 ?_;have kk:∀ b o,s'.heap.get? b=DJ o->(s'.heap.push { cls:= .type "range",data:= .fields #[.int 0 s'.toks,.int nI t,.int 1 (s'.toks+1)] }).get? b=DJ o:=fun b o e=>D3 _ e;refine h _ _ J' (ae sm ⟨_,_,rfl⟩) (S.trans (bV.of_keeps kk)) (Iv.keeps kk) ?_;intro Q2 hQ;have hz':(nI:Int)<1048576:=by have:(bo:Int)=1048576:=rfl;lia
   refine wpAny_pyIter_range (IsRange.new ..) ?_ ?_
   ·exact small_one (by decide) (by decide) (by lia) (by lia)
   ·refine yF (rangeSize_one _ _) ?_;refine hQ _ _ rfl (fun b o e=>D3 _ e) (.inr (.inr (.inr ⟨nI.toNat,rfl,by have:(bo:Int)=1048576:=rfl;have:bo=1048576:=rfl;lia,rfl,?_⟩)));have:(if (0:Int)<nI then nI - 0 else 0)=(nI.toNat:Int) - ((0:Nat):Int):=by split<;>lia
    refine yF this ?_;exact Er _ rfl
end
end Mine.Internal
end
section
open PySem PySem.W PyProof.Rows PySem.Calls
namespace Mine.Internal
theorem cf.extBut(Iv:cf cx J H h)(hs:G6 I h h')(hJ:I∉J)(hb:cx.hb.get? I=none)(ht:∀ its n,h.get? I≠DJ (ba its n)):cf cx J H h':=by
 have T:∀ b its n,h.get? b=DJ (ba its n)->h'.get? b=DJ (ba its n):=fun b its n e=>hs b _ (fun q=>ht its n (q ▸ e)) e;refine⟨⟨Iv.rep.len,Iv.rep.nodup,fun i o b e q=> ?_⟩,fun b o e=>hs b o (fun q=>by rw[<- q,e]at hb;exact oN hb) (Iv.base b o e),Iv.above,Iv.stat,Iv.sys⟩;exact (Iv.rep.obj i o b e q).ext EB T fun ob z=>hs b ob (fun w=>hJ (w ▸ dy q)) z
theorem ib.extBut(hs:G6 I h h')(out:¬ cD env I)(v:ib env h x val):ib env h' x val:=by
 rcases v with⟨k,mm,⟨o,es,ep,e,r⟩,q⟩ | ⟨k,c,l,o,e,d⟩
 ·exact .inl ⟨k,mm,⟨o,es,ep,hs _ _ (fun z=>out (.inl z.symm)) e,r⟩,q⟩
 ·exact .inr ⟨k,c,l,o,hs _ _ (fun z=>out (.inr ⟨x,z ▸ mem_of_lookup l⟩)) e,d⟩
theorem eK.extBut(X:eK cx env fs cs m c J H h)(hs:G6 I h h')(hJ:I∉J)(hb:cx.hb.get? I=none)(ht:∀ its n,h.get? I≠DJ (ba its n))(out:¬ cD env I):eK cx env fs cs m c J H h':=by
 have T:∀ b its n,h.get? b=DJ (ba its n)->h'.get? b=DJ (ba its n):=fun b its n e=>hs b _ (fun q=>ht its n (q ▸ e)) e;have al:∀ a,cD env a->h'.get? a≠none:=fun a ea=>by
  cases q:h.get? a with
  | none=>exact absurd q (X.ctx.out a ea).2.1
  | some o=>rewrite[hs a o (fun z=>out (z ▸ ea)) q];simp
 refine⟨⟨X.ctx.inv.extBut hs hJ hb ht,X.ctx.fn,X.ctx.gl,X.ctx.bi,fun a ea=>⟨(X.ctx.out a ea).1,al a ea,(X.ctx.out a ea).2.2⟩,fun i x v hx hf hm=> ?_,fun i x v hx hm=> ?_,X.ctx.len,X.ctx.cel⟩,?_,fun hf p hp=> ?_⟩
 ·refine af (X.ctx.fv i x v hx hf hm) fun val r q=>?_;exact⟨val,r.ext EB T,q.extBut hs out⟩
 ·refine af (X.ctx.cv i x v hx hm) fun val r q=>?_;exact⟨val,r.ext EB T,q.extBut hs out⟩
 ·refine Cl X.fr.ns fun mm o es ep e r=>?_;exact⟨mm,o,es,ep,hs _ _ (fun z=>out (.inl z.symm)) e,r⟩
 ·refine fL (X.fr.cells hf p hp) fun ov o e d=>?_;exact⟨ov,o,hs _ _ (fun z=>out (.inr ⟨p.1,z ▸ hp⟩)) e,d⟩
theorem bV.extBut{own:Addr->Prop}(S:bV J J' h h1 own)(hs:G6 I h1 h')(hI:h.get? I=none):bV J J' h h' own where
 pre:=S.pre
 new:=S.new
 keep:=fun b o e hJ ho=>hs b o (fun q=>by rw[q,hI]at e;exact nO e) (S.keep b o e hJ ho)
 tup:=fun b its n e=>hs b _ (fun q=>by rw[q,hI]at e;exact nO e) (S.tup b its n e)
 alive:=fun b e=>by
  have:=S.alive b e;cases q:h1.get? b with
  | none=>exact absurd q this
  | some o=>rewrite[hs b o (fun z=>e (z ▸ hI)) q];simp
noncomputable def tB(env:Env)(D:Addr)(a:Addr):Prop:=a=env.locals\/a=D
noncomputable def uE(env:Env)(D:Addr)(a:Addr):Prop:=cD env a\/a=D
theorem uE.own{env:Env}{D a:Addr}(h:¬ uE env D a):¬ tB env D a:=fun x=>h (x.elim (fun y=> .inl (.inl y)) .inr)
structure tC(cx:Cx)(env:Env)(fs cs:List DL)(m c:aZ)(D:Addr)(avs:List AV)(J:Jm)(H:Hp)(h:Heap):Prop where
 sctx:eK cx env fs cs m c J H h
 accJ:D∉J
 accB:cx.hb.get? D=none
 accL:¬ cD env D
 acc:∃ its q,h.get? D=DJ (listOf its q)/\cE J h avs its.toList/\its.size<=2097152
theorem pD:listOf its q≠ba its' q':=by
 intro e;injection e with e;injection e with e;exact absurd e (by decide)
theorem tC.step{cx:Cx}{env:Env}{fs cs:List DL}{m c:aZ}{D:Addr}{avs:List AV}{J J':Jm}{H H':Hp}{h h':Heap}(X:tC cx env fs cs m c D avs J H h)(S:bV J J' h h' bF)(I:cf cx J' H' h'):tC cx env fs cs m c D avs J' H' h':=by
 refine aW X.acc fun its q e r z=>?_;refine⟨X.sctx.step S I,fun w=>(S.new D w).elim X.accJ (fun y=>by rw[e]at y;exact oN y),X.accB,X.accL,its,q,S.kept X.accJ e,r.mono S,z⟩
theorem tC.extBut{cx:Cx}{env:Env}{fs cs:List DL}{m c:aZ}{D:Addr}{avs:List AV}{J:Jm}{H:Hp}{h h':Heap}{I:Addr}(X:tC cx env fs cs m c D avs J H h)(hs:G6 I h h')(hJ:I∉J)(hb:cx.hb.get? I=none)(ht:∀ its n,h.get? I≠DJ (ba its n))(out:¬ uE env D I):tC cx env fs cs m c D avs J H h':=by
 have T:∀ b its n,h.get? b=DJ (ba its n)->h'.get? b=DJ (ba its n):=fun b its n e=>hs b _ (fun q=>ht its n (q ▸ e)) e;refine aW X.acc fun its q e r z=>?_;exact⟨X.sctx.extBut hs hJ hb ht fun w=>out (.inl w),X.accJ,X.accB,X.accL,its,q,hs _ _ (fun w=>out (.inr w.symm)) e,r.ext EB T,z⟩
noncomputable def lT(cx:Cx)(env:Env)(fs cs:List DL)(m c':aZ)(D:Addr)(avs':List AV)(J:Jm)(H':Hp)(s s':DQ):Prop:=
 (∃ h tk,s'={ s with heap:=h,toks:=tk })/\∃ J',bV J J' s.heap s'.heap (tB env D)/\tC cx env fs cs m c' D avs' J' H' s'.heap
noncomputable def tD(elt:Expr)(acc:DW)(env:Env):Sem Unit:=do
 let _ <- call (.builtin "list.append") [acc,<- eval elt env]
noncomputable def nr(eC elt:Expr)(gens:List Comprehension)(d:Nat)(acc:DW)(env:Env)(kc:Sem Kb):Sem Kb:=
 match gens[d]? with
 | some g'=>do
  let x <- eval g'.iter env
  standAt g'.iter.pos
  if (g'.is_async != 0)=true then do
    let x <- foldedIterable g'.iter x
    let it <- holding [x] (if (g'.is_async != 0)=true then asyncIter x else pyIter x)
    let _ <- runOwn (.compStart eC d it acc env) env
    kc
   else do
    let x <- foldedSetIterable g'.iter env x
    let it <- holding [x] (if (g'.is_async != 0)=true then asyncIter x else pyIter x)
    let _ <- runOwn (.compStart eC d it acc env) env
    kc
 | none=>tD elt acc env >>= fun _=>kc
noncomputable def mE(env:Env)(c:Expr)(r:Bool):Sem (ForInStep Bool):=if r=true then do
  let ok <- Hu c env (eval c env)
  pure (FK ok)
 else pure (FK r)
section
variable {cx:Cx} {cl:aR} {n:Nat} {sc:Scope} {fs cs:List DL} {A:Around} {E':DW->DQ->Prop} {s:DQ} {J:Jm} {H:Hp} {env:Env} {m c:aZ}
theorem qp:∀ (ifs:List Expr) {Q:Bool->DQ->Prop},Q false s->D2 cx.M A (forIn ifs false (mE env)) Q E' s
 | [],Q,h=>by dsimp only[Gn];exact DP h
 | i::r,Q,h=>by
  rewrite[GY];unfold mE;refine yF (if_neg EY) ?_;exact DM (DP (qp r h))
theorem yu{Q:Bool->DQ->Prop}(h:D2 cx.M A (Hu i env (eval i env)) (fun ok s1=>D2 cx.M A (forIn r ok (mE env)) Q E' s1) E' s):D2 cx.M A (forIn (i::r) true (mE env)) Q E' s:=by
 rewrite[GY];show D2 cx.M A ((do
  let ok <- Hu i env (eval i env)
  pure (FK ok)) >>= _) Q E' s
 refine DM (DM (Fm h (fun ok s1 h1=>DP h1) fun _ _ x=>x))
noncomputable def SG(cx:Cx)(cl:aR)(n:Nat)(sc:Scope)(fs cs:List DL)(eC elt:Expr)(gens:List Comprehension)(d:Nat)(g:G)(ifs:List Expr):Prop:=
 ∀ (env:Env) (A:Around) (s:DQ) (J:Jm) (H:Hp) (m c:aZ) (D:Addr) (avs:List AV) (c':aZ) (H':Hp) (avs':List AV) (kc:Sem Kb) (Q:Kb->DQ->Prop) (E':DW->DQ->Prop),env.scope=sc->kl A n->dG env cs->(∀ y∈cs,env.kindOf y=DJ .local)->cs≠[]->
  tC cx env fs cs m c D avs J H s.heap->m8 cl g m c H avs=DJ (c',H',avs')->(∀ s',lT cx env fs cs m c' D avs' J H' s s'->D2 cx.M A kc Q E' s')->
  D2 cx.M A (forIn ifs true (mE env)) (fun ok s1=>D2 cx.M A (if ok=true then nr eC elt gens d (.ref D) env kc else kc) Q E' s1) E' s
theorem tC.same{D:Addr}{avs:List AV}{H':Hp}{s':DQ}{J':Jm}(sm:∃ h tk,s'={ s with heap:=h,toks:=tk })(S:bV J J' s.heap s'.heap bF)(X:tC cx env fs cs m c D avs J' H' s'.heap):lT cx env fs cs m c D avs J H' s s':=
 ⟨sm,J',S.weaken fun _ x=>x.elim,X⟩
theorem lT.trans{D:Addr}{avs:List AV}{c':aZ}{H':Hp}{s' s'':DQ}{J':Jm}(sm:∃ h tk,s'={ s with heap:=h,toks:=tk })(S:bV J J' s.heap s'.heap (tB env D))(p:lT cx env fs cs m c' D avs J' H' s' s''):lT cx env fs cs m c' D avs J H' s s'':=
 am p fun sm2 q=>af q fun J2 S2 X=>⟨ae sm sm2,J2,S.trans S2,X⟩
theorem SG.if_{eC elt:Expr}{gens:List Comprehension}{d:Nat}{e:E}{g:G}{i:Expr}{ifs:List Expr}(h1:ST cx cl n sc fs cs e i)(h2:SG cx cl n sc fs cs eC elt gens d g ifs):SG cx cl n sc fs cs eC elt gens d (.if_ e g) (i::ifs):=by
 intro env A s J H m c D avs c' H' avs' kc Q E' hs hA W hcs hne X e0 h;refine bN e0 ?_;intro v H1 e1 e0;refine ka e0 ?_;intro t e2 e3;try dsimp only at e3
 refine yu (h1 env A s J H m c v H1 t _ _ hs hA X.sctx.ctx e1 e2 fun s' p=> ?_);refine am p fun sm z16=>?_;clear p;refine aM z16 fun J' S I uu=>?_;clear z16;have X':=X.step S I;cases t with
 | true=>
  rw[if_pos rfl]at e3;exact h2 env A s' J' H1 m c D avs c' H' avs' kc Q E' hs hA W hcs hne X' e3 fun s'' p=>h s'' (p.trans sm (S.weaken fun _ x=>x.elim))
 | false=>
  rw[if_neg EY]at e3;revert X';refine jT e3 ?_;intro X';exact qp ifs (by refine yF (if_neg EY) ?_;exact h s' (tC.same sm S X'))
theorem SG.elt(h1:SE cx cl n sc fs cs e x)(hd:gens[d]? =none):SG cx cl n sc fs cs eC x gens d (.elt e) []:=by
 intro env A s J H m c D avs c' H' avs' kc Q E' hs hA W hcs hne X e0 h;refine bN e0 ?_;intro v H1 e1 e3;try dsimp only at e3
 split at e3
 ·rename_i hz;revert h;refine jC e3 ?_;intro h;dsimp only[Gn];refine DP ?_;refine yF (if_pos rfl) ?_;unfold nr tD;refine yF hd ?_;refine DM (DM (h1.one hs hA X.sctx.ctx e1 fun va s' J' sm S X' ra=> ?_));have XC:=X.step S X'.inv;refine aW XC.acc fun its q ho r z=>?_;have hlen:=r.length;simp only[Ej]at hlen;have z1:=zy;have z2:=jJ;refine DM ?_;with_reducible refine append_at ho (fun h' hs' ee=> ?_) (DO z (by decide))
  refine DP (h _ ?_);have nt:∀ its' n',s'.heap.get? D≠DJ (ba its' n'):=fun its' n' w=>by rw[ho]at w;exact pD (EU w)
  have T:∀ b its n,s'.heap.get? b=DJ (ba its n)->h'.get? b=DJ (ba its n):=fun b its n e=>(hs'.2 b fun q=>nt its n (q ▸ e)).trans e;have S':bV J' J' s'.heap h' (tB env D):=bV.sameBut hs' (.inr rfl) nt (by refine yF ee ?_;simp);refine⟨ae sm ⟨h',s'.toks,rfl⟩,J',(S.weaken fun _ x=>x.elim).trans S',XC.sctx.extBut hs'.extBut XC.accJ XC.accB nt XC.accL,XC.accJ,XC.accB,XC.accL,_,_,ee,?_,?_⟩
  ·refine yF JR ?_;exact (r.ext EB T).append ⟨va,[],rfl,ra.ext EB T,rfl⟩
  ·refine yF (Ky _) ?_;exact bS (nat_lit 14313813114217294090362613166569771517378) tt hlen hz z1
 ·exact nO e3
theorem qq{eC elt:Expr}{scope:Scope}{pos:Pos}{gens:List Comprehension}{d:Nat}{target iter:Expr}{ifs:List Expr}{t:rW}{g:G}(heC:eC= .ListComp elt gens scope pos)(hg:gens[d]? =DJ ⟨target,iter,ifs,0⟩)(ht:ew cs t target=true)
  (hG:SG cx cl n sc fs cs eC elt gens (d+1) g ifs) {vs:List AV} {gd:Option (Nat × AO)} {I D:Addr} {res:aZ × Hp × List AV} {R:Result->DQ->Prop} {Jb:Jm} {sb:DQ}
  (hs:env.scope=sc) (hA:kl A n) (W:dG env cs) (hcs:∀ y∈cs,env.kindOf y=DJ .local) (hne:cs≠[]) (hb:cx.hb.get? I=none) (hsb:sb.heap.get? I=none) (hIo:¬ uE env D I)
  (hR:∀ s',lT cx env fs cs m res.1 D res.2.2 Jb res.2.1 sb s'->R (.ok .next) s'):
  ∀ (k:Nat) (i:Nat) (s:DQ) (J:Jm) (H:Hp) (c:aZ) (avs:List AV),k=vs.length - i->(∃ h tk,s={ sb with heap:=h,toks:=tk })->bV Jb J sb.heap s.heap (tB env D)->tC cx env fs cs m c D avs J H s.heap->I∉J->g6 vs gd I i J s.heap->
   eW (fun s=>s.2.1) gd (fun (s:aZ × Hp × List AV) v=>do
    let c' <- bp s.1 t v
    m8 cl g m c' s.2.1 s.2.2) (vs.drop i) (c,H,avs)=DJ res->codeAny cx.M A (.compLoop eC d (.ref I) (.ref D) env) R s:=by
 subst heC;intro k i s J H c avs hk sm S X hI hit hl;refine codeAny_loop rfl (fun k s=>∃ (i:Nat) (J:Jm) (H:Hp) (c:aZ) (avs:List AV),k=vs.length - i/\(∃ h tk,s={ sb with heap:=h,toks:=tk })/\bV Jb J sb.heap s.heap (tB env D)/\tC cx env fs cs m c D avs J H s.heap/\I∉J/\g6 vs gd I i J s.heap/\
   eW (fun s=>s.2.1) gd (fun (s:aZ × Hp × List AV) v=>do
    let c' <- bp s.1 t v
    m8 cl g m c' s.2.1 s.2.2) (vs.drop i) (c,H,avs)=DJ res) ?_ k ⟨i,J,H,c,avs,hk,sm,S,X,hI,hit,hl⟩
 intro k s z3;refine eT z3 fun i J H c z115=>?_;clear z3;refine yJ z115 fun avs hk sm S X hI hit hl=>?_;clear z115;show D2 _ A ((compTurn (.ListComp elt gens scope pos) d (.ref I) (.ref D) env).onRaise (fun x=>do noteFrame x env;theTreesLotGoes x)) _ _ s;refine wpAny_noted ?_;unfold compTurn;simp only[hg];refine DM (FQ ?_);refine yF (if_neg (by decide)) ?_;by_cases hlt:i<vs.length
 ·rw[EO hlt]at hl;refine tS hl ?_;clear hl;intro st2 hgd hf hl;refine ka hf ?_;clear hf;intro c1 hb1 hf;refine DM (rS X.sctx.ctx.inv hit hgd hI (Em hlt) fun val h' tk hs' it' rv=> ?_);have nt:=hit.notTup;have X1:tC cx env fs cs m c D avs J H h':=X.extBut hs'.extBut hI hb nt hIo;have S1:bV Jb J sb.heap h' (tB env D):=S.extBut hs'.extBut hsb;refine DM (o0 (s:={ s with heap:=h',toks:=tk }) it' ?_);refine DM (wD (s:={ s with heap:=h',toks:=tk }) hA.hh W hcs hne ht hb1 X1.sctx rv fun s2 hst=> ?_);refine bY hst fun sm2 S2 X2=>?_;clear hst;refine aW X1.acc fun its q ho r z=>?_;have XC:tC cx env fs cs m c1 D avs J H s2.heap:=⟨X2,X1.accJ,X1.accB,X1.accL,its,q,S2.keep _ _ ho X1.accJ (fun w=>X1.accL (.inl w)),r.mono S2,z⟩;have it2:g6 vs gd I (i+1) J s2.heap:=it'.ext EB S2.tup fun o e=>S2.keep _ _ e hI fun w=>hIo (.inl (.inl w));have S3:bV Jb J sb.heap s2.heap (tB env D):=S1.trans (S2.weaken fun _ w=> .inl w);refine DM ?_;show D2 cx.M A (forIn ifs true (mE env)) (fun ok s1=>D2 cx.M A (if ok=true then nr (.ListComp elt gens scope pos) elt gens (d+1) (.ref D) env (again (.compLoop (.ListComp elt gens scope pos) d (.ref I) (.ref D) env)) else again (.compLoop (.ListComp elt gens scope pos) d (.ref I) (.ref D) env)) _ _ s1) _ s2;refine hG env A s2 J H m c1 D avs st2.1 st2.2.1 st2.2.2 (again (.compLoop (.ListComp elt gens scope pos) d (.ref I) (.ref D) env)) _ _ hs hA W hcs hne XC hf ?_;intro s4 z2;refine am z2 fun sm4 z85=>?_;clear z2;refine af z85 fun J4 S4 X4=>?_;clear z85;refine DP ⟨rfl,vs.length - (i+1),by (subst_vars;omega),i+1,J4,st2.2.1,st2.1,st2.2.2,rfl,ae sm (ae ⟨_,_,rfl⟩ (ae sm2 sm4)),S3.trans S4,X4,fun w=>(S4.new I w).elim hI (it2.alive ·),?_,hl⟩;exact it2.ext S4.pre S4.tup fun o e=>S4.keep _ _ e hI (uE.own hIo)
 ·have hge:vs.length<=i:=Fe.mp hlt;rw[Ii hge]at hl;rewrite [Bx]at hl;refine Internal.ifs hl ?_;clear hl;intro hgd hl
  ·revert hR;refine jA hl ?_;intro hR;refine DM (yt hA.hh X.sctx.ctx.inv hit hgd hge fun h' tk hs'=> ?_);refine DP (hR _ ⟨ae sm ⟨h',tk,rfl⟩,J,S.extBut hs' hsb,X.extBut hs' hI hb hit.notTup hIo⟩)
end
end Mine.Internal
end
section
open PySem PySem.W PyProof.Rows PySem.Calls
namespace Mine.Internal
section
variable {cx:Cx} {cl:aR} {n:Nat} {sc:Scope} {fs cs:List DL} {A:Around} {E':DW->DQ->Prop} {s:DQ} {J:Jm} {H:Hp} {env:Env} {m c:aZ}
theorem o4{elt target iter:Expr}{gens:List Comprehension}{ifs:List Expr}{scope:Scope}{pos:Pos}{d:Nat}{it acc:DW}{R:Result->DQ->Prop}(hg:gens[d]? =DJ ⟨target,iter,ifs,0⟩)
  (h0:codeAny cx.M A (.compLoop (.ListComp elt gens scope pos) d it acc env) R s)
  (h:D2 cx.M A (pyIter it) (fun it' s'=>codeAny cx.M A (.compLoop (.ListComp elt gens scope pos) d it' acc env) R s') (notedBy cx.M A env fun x s'=>R (.error x) s') s):
  codeAny cx.M A (.compStart (.ListComp elt gens scope pos) d it acc env) R s:=by
 refine Kz ?_;have hg':(clausesOf (.ListComp elt gens scope pos))[d]? =DJ ⟨target,iter,ifs,0⟩:=hg;cases d with
 | zero=>
  show D2 _ A ((compStart (.ListComp elt gens scope pos) 0 it acc env).onRaise (fun x=>do noteFrame x env;standAt theWindowsPlace)) _ _ s;refine LH ?_;unfold compStart;refine yF hg' ?_;show D2 _ _ (ask >>= _) _ _ s;refine DM (H0 (wpAny_ite ?_));split
  ·exact DP ⟨rfl,h0⟩
  ·refine DM (Gd ?_);show D2 _ _ (standAt iter.pos >>= _) _ _ s;exact DM (FQ (DM (Fm h (fun it' s' h'=>DP ⟨rfl,h'⟩) fun _ _ x=>x)))
 | succ d=>
  show D2 _ A ((compStart (.ListComp elt gens scope pos) (d+1) it acc env).onRaise (fun x=>do noteFrame x env;standAt theWindowsPlace)) _ _ s;refine LH ?_;unfold compStart;refine yF hg' ?_;show D2 _ _ (ask >>= _) _ _ s;refine DM (H0 (wpAny_ite ?_));split
  ·exact DP ⟨rfl,h0⟩
  ·refine DM (Gd ?_);show D2 _ _ (standAt iter.pos >>= _) _ _ s;exact DM (FQ (DM (Fm h (fun it' s' h'=>DP ⟨rfl,h'⟩) fun _ _ x=>x)))
noncomputable def iu(e:Expr):Bool:= !Nat.beq e.ctorIdx 7
theorem jd(h:iu e=true)(x:DW):foldedSetIterable e env x=pure x:=by
 cases e<;>first | rfl | exact fT h
theorem lU{own:Addr->Prop}(S:bV J J' h h' own)(e:h'.get? a=none):h.get? a=none:=by
 cases q:h.get? a with
 | none=>rfl
 | some o=>exact absurd e (S.alive a (by refine yF q ?_;simp))
theorem SG.for_{elt target iter:Expr}{gens:List Comprehension}{scope:Scope}{pos:Pos}{d:Nat}{ifs:List Expr}{t:rW}{rng:Bool}{it:E}{g:G}(hg:gens[d]? =DJ ⟨target,iter,ifs,0⟩)(ht:ew cs t target=true)(hns:iu iter=true)
  (hI:SI cx cl n sc fs cs rng it iter) (hG:SG cx cl n sc fs cs (.ListComp elt gens scope pos) elt gens (d+1) g ifs):SG cx cl n sc fs cs (.ListComp elt gens scope pos) elt gens d (.for_ t rng it g) []:=by
 intro env A s J H m c D avs c' H' avs' kc Q E' hs hA W hcs hne X e0 h;refine bN e0 ?_;intro y H1 e1 e0;refine bN e0 ?_;intro vs gd e2 e3;try dsimp only at e3
 dsimp only[Gn];refine DP ?_;refine yF (if_pos rfl) ?_;unfold nr;refine yF hg ?_;refine DM (hI env A s J H m c y H1 vs gd _ _ hs hA X.sctx.ctx e1 e2 fun xv s1 J1 sm1 S1 I1 hready=> ?_);refine DM (FQ ?_);refine yF (if_neg (by show ¬ ((0:Int) != 0)=true;decide)) ?_;refine DM (IK (jd hns xv) (DM (E0 ?_)));refine yF (if_neg (by show ¬ ((0:Int) != 0)=true;decide)) ?_;refine hready _ fun I h' hIs kk hit=> ?_;have X1:=X.step S1 I1;have hsb:s1.heap.get? I=none:=by refine yF hIs ?_;exact cN _
 have hb:cx.hb.get? I=none:=dQ I1 hsb;have hIJ:I∉J1:=fun q=>I1.aliveJ q hsb;have hIo:¬ uE env D I:=by
  rintro (q | q)
  ·exact (X1.sctx.ctx.out I q).2.1 hsb
  ·refine fL X1.acc fun its q2 e uu=>?_;rw[<- q,hsb]at e;exact nO e
 have X2:tC cx env fs cs m c D avs J1 H1 h':=X1.step (bV.of_keeps kk) (I1.keeps kk);have R0:∀ s',lT cx env fs cs m c' D avs' J1 H' s1 s'->D2 cx.M A kc Q E' s':=fun s' p=>h s' (p.trans sm1 (S1.weaken fun _ x=>x.elim));have loop:∀ {R:Result->DQ->Prop},(∀ s',D2 cx.M A kc Q E' s'->R (.ok .next) s')->codeAny cx.M A (.compLoop (.ListComp elt gens scope pos) d (.ref I) (.ref D) env) R { s1 with heap:=h' }:=fun {R} hRR=>
  qq (cx:=cx) (cl:=cl) (n:=n) (sc:=sc) (R:=R) (res:=(c',H',avs')) (Jb:=J1) (sb:=s1) (vs:=vs) (gd:=gd) rfl hg ht hG hs hA W hcs hne hb hsb hIo (fun s' p=>hRR s' (R0 s' p)) (vs.length - 0) 0 { s1 with heap:=h' } J1 H1 c avs rfl ⟨_,_,rfl⟩ (bV.of_keeps kk) X2 hIJ hit (by refine yF HS ?_;exact e3)
 refine DM (wpAny_runOwn ?_);exact o4 hg (loop fun s' z=>z) (vz (s:={ s1 with heap:=h' }) hit (loop fun s' z=>z))
end
end Mine.Internal
end
section
open PySem PySem.W PyProof.Rows PySem.Calls
namespace Mine.Internal
noncomputable def ez(scope sc:Scope):Scope:=
 { scope with names:=scope.names.map fun (n,k)=>if (k == .free&&sc.kind == .function&&sc.names.lookup n == DJ .cell) then (n,.cell) else (n,k) }
theorem AT(scope:Scope)(env:Env):relabel scope env=ez scope env.scope:=rfl
structure gy(scope sc:Scope)(names:List DL):Prop where
 kind:scope.kind= .function
 sk:sc.kind= .function
 cells:∀ x∈scope.names,x.2≠ .cell
 locs:∀ x∈scope.names,x.2= .local->scope.names.lookup x.1=DJ .local
 frees:∀ x∈scope.names,x.2= .free->sc.names.lookup x.1=DJ .cell\/sc.names.lookup x.1=DJ .free
 nms:∀ x∈names,scope.names.lookup x=DJ .local
 nodup:names.Nodup
 ne:names≠[]
theorem rT(hc:∀ x∈scope.names,x.2≠ .cell):(ez scope sc).names.lookup x=DJ .cell\/(ez scope sc).names.lookup x=DJ .free->(x,GX)∈scope.names:=by
 unfold ez;simp only;generalize scope.names=l at hc;induction l with
 | nil=>simp
 | cons p r ih=>
  obtain⟨y,k⟩:=p;intro h;rw[Fq]at h;cases hx:x == y with
  | true=>
   have hxy:x=y:=beq_iff_eq.mp hx;subst hxy;cases k with
   | free=>exact Fi
   | cell=>exact absurd rfl (hc _ Fi)
   | _=>simp[Fd]at h
  | false=>
   refine EM _ (ih (fun z hz=>hc z (EM _ hz)) ?_);have e:∀ (q:DL × NameKind) (l:List (DL × NameKind)),q.1=y->HN x (q::l)=HN x l:=by
    intro q l hq;obtain⟨q1,q2⟩:=q;simp only at hq;subst hq;dsimp only[Fd];refine yF hx ?_;rfl
   rw[e _ _ (by simp only;split<;>rfl)]at h;exact h
theorem uF(h:∀ x∈scope.names,x.2= .free->∃ a,env.cells.lookup x.1=DJ a):
  ∃ cl,closureFor scope env=pure cl/\(∀ p∈cl,env.cells.lookup p.1=DJ p.2)/\(∀ x,(x,GX)∈scope.names->∃ a,cl.lookup x=DJ a):=by
 simp only[closureFor];have key:∀ (l:List (DL × NameKind)) (acc:List (DL × Addr)),(∀ x∈l,x.2= .free->∃ a,env.cells.lookup x.1=DJ a)->(∀ p∈acc,env.cells.lookup p.1=DJ p.2)->
   ∃ cl,(forIn l acc fun (x:DL × NameKind) (cs:List (DL × Addr))=>(if (x.2 == .free)=true then do let a <- cellOf env x.1;pure (FK ((x.1,a)::cs)) else pure (FK cs):Sem (ForInStep (List (DL × Addr)))))=pure cl/\
    (∀ p∈cl,env.cells.lookup p.1=DJ p.2)/\(∀ x,(x,GX)∈l->∃ a,cl.lookup x=DJ a)/\(∀ x a,acc.lookup x=DJ a->∃ a,cl.lookup x=DJ a):=by
  intro l;induction l with
  | nil=>intro acc _ ha;exact⟨acc,by (refine yF Gn ?_;rfl),ha,fun x m=>(by cases m),fun x a e=>⟨a,e⟩⟩
  | cons p r ih=>
   intro acc hl ha;obtain⟨y,k⟩:=p;rewrite[GY];by_cases hk:k= .free
   ·subst hk;refine aq (hl _ Fi rfl) fun a e=>?_;refine fu (ih ((y,a)::acc) (fun x hx=>hl x (EM _ hx)) (fun p hp=>by
     cases hp with
     | head=>exact e
     | tail _ hp=>exact ha p hp)) fun cl e1 e2 e3 e4=>?_
    refine⟨cl,?_,e2,fun x m=> ?_,fun x b eb=> ?_⟩
    ·refine yB e1 ?_;simp only[beq_self_eq_true,if_true];unfold cellOf;simp only at e;refine yF e ?_;rfl
    ·cases m with
     | head=>exact e4 y a (by dsimp only[Fd];simp)
     | tail _ m=>exact e3 x m
    ·by_cases q:x=y
     ·subst q;exact e4 x a (by dsimp only[Fd];simp)
     ·have hq:(x == y)=false:=by simpa using q
      exact e4 x b (by (dsimp only[Fd];refine yF hq ?_);exact eb)
   ·refine fu (ih acc (fun x hx=>hl x (EM _ hx)) ha) fun cl e1 e2 e3 e4=>?_;refine⟨cl,?_,e2,fun x m=> ?_,e4⟩
    ·refine yB e1 ?_;have:(k == GX)=false:=by simpa using hk
     simp only[this,EJ,if_false];rfl
    ·cases m with
     | head=>exact absurd rfl hk
     | tail _ m=>exact e3 x m
 refine fu (key scope.names [] h (fun p hp=>by cases hp)) fun cl e1 e2 e3 uu=>?_;refine⟨cl,?_,e2,e3⟩;have e1':(forIn scope.names [] fun (x:DL × NameKind) (cs:List (DL × Addr))=>(if (x.2 == .free)=true then do let a <- cellOf env x.1;pure (FK ((x.1,a)::cs)) else pure (FK cs):Sem (ForInStep (List (DL × Addr))))) >>= (fun cs=>pure cs)=(pure cl:Sem _):=by refine yF e1 ?_;rfl
 exact e1'
section
variable {cx:Cx} {cl:aR} {n:Nat} {sc:Scope} {fs cs:List DL} {A:Around} {E':DW->DQ->Prop} {s:DQ} {J:Jm} {H:Hp} {env:Env} {m c:aZ}
theorem yv{scope:Scope}{names:List DL}{clos:List (DL × Addr)}{C:Addr}{h4:Heap}{mm:DL->Option DW}(hs:env.scope=sc)(hS:gy scope sc names)(X:kY cx env fs cs m c J H s.heap)(hcl:∀ p∈clos,env.cells.lookup p.1=DJ p.2)
  (hfr:∀ x,(x,GX)∈scope.names->∃ a,clos.lookup x=DJ a) (kk:∀ b o,s.heap.get? b=DJ o->h4.get? b=DJ o) (hN:h4.Ns C mm) (hC:s.heap.get? C=none):
  eK cx (compEnvC scope clos C env) fs names m (D0 names.length none) J H h4/\dG (compEnvC scope clos C env) names/\(∀ y∈names,(compEnvC scope clos C env).kindOf y=DJ .local):=by
 subst hs;have S:bV J J s.heap h4 bF:=bV.of_keeps kk;have loc:∀ y∈names,(compEnvC scope clos C env).kindOf y=DJ .local:=fun y hy=>lookup_relabel_local (hS.nms y hy);have free:∀ x,rM (compEnvC scope clos C env) x->rM env x/\∃ a,clos.lookup x=DJ a:=fun x hx=>by
  have hm:(x,GX)∈scope.names:=rT (sc:=env.scope) hS.cells hx;exact⟨hS.frees _ hm rfl,hfr x hm⟩
 have cAddr:∀ p∈clos,cD env p.2:=fun p hp=> .inr ⟨p.1,mem_of_lookup (hcl p hp)⟩;refine⟨⟨⟨X.inv.keeps kk,hS.kind,X.gl,X.bi,fun a ea=> ?_,fun i x v hx hf hm=> ?_,fun i x v hx hm=> ?_,by simp,fun x hx=>(free x hx).2⟩,⟨⟨mm,hN⟩,fun hf=>absurd rfl hf⟩⟩,⟨hS.kind,fun p hp e=> ?_,fun x hx=> .inl (loc x hx),hS.nodup⟩,loc⟩
 ·rcases ea with ea | ⟨x,hx⟩
  ·have ea:a=C:=ea;subst ea;exact⟨fun q=>X.inv.aliveJ q hC,Ns.alive hN,dQ X.inv hC⟩
  ·have o:=X.out a (cAddr _ hx);exact⟨o.1,S.alive a o.2.1,o.2.2⟩
 ·refine am (free x (hf hS.ne)) fun hfe z16=>?_;refine aq z16 fun a ha=>?_;clear z16;refine af (X.fv i x v hx (fun _=>hfe) hm) fun val r q=>?_;refine⟨val,r.mono S,?_⟩;rcases q with⟨k,_⟩ | ⟨k,c',l,o,e,dd⟩
  ·rcases hfe with z | z<;>rw[k]at z<;>exact nomatch z
  ·have hl:=hcl _ (mem_of_lookup ha);simp only at hl;rw[l]at hl;revert ha;refine jA hl ?_;intro ha;exact .inr ⟨hf hS.ne,_,ha,o,kk _ _ e,dd⟩
 ·rw[G7]at hm;split at hm<;>cases hm
 ·have e:p.2=C:=e;have:=(X.out _ (cAddr p hp)).2.1;rw[e]at this;exact this hC
theorem qr{eC elt target iter:Expr}{rest:List Comprehension}{ifs:List Expr}{scope:Scope}{names:List DL}{pos pos':Pos}{k:Nat}{t:rW}{rng:Bool}{it:E}{g:G}{use:Option (DW->Sem Unit)}{v:AV}{H':Hp}{Q:DW->DQ->Prop}
  (heC:eC= .ListComp elt (⟨target,iter,ifs,0⟩::rest) scope pos) (hS:gy scope sc names) (hk:k=names.length) (ht:ew names t target=true) (hns:iu iter=true) (hI:SI cx cl n sc fs cs rng it iter)
  (hG:SG cx cl n (ez scope sc) fs names eC elt (⟨target,iter,ifs,0⟩::rest) 1 g ifs) (hs:env.scope=sc) (hA:kl A n) (X:kY cx env fs cs m c J H s.heap) (e:aC cl (.comp k t rng it g) m c H=DJ (v,H'))
  (h:∀ acc s' C,ak cx J s v H' acc s'->(∃ mm,s'.heap.Ns C mm)->s.heap.get? C=none->(∃ J',bV J J' s.heap s'.heap bF/\cf cx J' H' s'.heap/\cb J' s'.heap v acc/\C∉J')->compPost cx.M A E' use Q acc C (.ok .next) s'):
  D2 cx.M A (comprehension eC scope env pos' (newList []) false (eval iter env) use) Q E' s:=by
 refine bN e ?_;intro y H1 e1 e;refine bN e ?_;intro vs gd e2 e;refine Bk e ?_;intro c' H2 avs' e3 e4;revert h e;refine jB e4 ?_;intro h e;refine aM (uF (scope:=scope) (env:=env) fun x hx hfr=>X.cel x.1 (by subst hs;exact hS.frees x hx hfr)) fun clos hclos hc1 hc2=>?_;refine wpAny_comprehension_free (g:=⟨target,iter,ifs,0⟩) (gs:=rest) (by refine yF heC ?_;rfl) (jd hns) hclos hS.kind hS.locs ?_;refine hI env A s J H m c y H1 vs gd _ _ hs hA X e1 e2 fun xv s1 J1 sm1 S1 I1 hready=> ?_;refine hready _ fun I hI' hIs kk hit=> ?_;have X1:=X.step S1 I1;refine wpAny_newList ?_;refine wpAny_newFunctionEnv hS.cells (fun x hx=>by cases hx) (fun h4 hN hsb=> ?_) hS.kind;have hD:hI'.get? hI'.objs.size=none:=cN _;have hz:(hI'.push { cls:= .type "list",data:= .seq ([]:List DW).toArray }).objs.size=hI'.objs.size+1:=F2 ..;have ne1:∀ b o,hI'.get? b=DJ o->b≠(hI'.push { cls:= .type "list",data:= .seq ([]:List DW).toArray }).objs.size:=fun b o e=>by refine yF hz ?_;exact D4 (Eg (FF e))
 have k2:∀ b o,hI'.get? b=DJ o->h4.get? b=DJ o:=fun b o e=>hsb.extBut b o (ne1 b o e) (D3 _ (D3 _ e));have k1:∀ b o,s1.heap.get? b=DJ o->h4.get? b=DJ o:=fun b o e=>k2 b o (kk b o e);have hDg:h4.get? hI'.objs.size=DJ (listOf #[] 0):=hsb.extBut _ _ (by refine yF hz ?_;exact D4 (EA _)) (D3 _ (Er _ rfl));have noneS:∀ a,hI'.get? a=none->s1.heap.get? a=none:=fun a ha=>by
  cases q:s1.heap.get? a with
  | none=>rfl
  | some o=>rw[kk a o q]at ha;cases ha
 have hD1:s1.heap.get? hI'.objs.size=none:=noneS _ hD;have hCn:hI'.get? (hI'.push { cls:= .type "list",data:= .seq ([]:List DW).toArray }).objs.size=none:=by
  cases q:hI'.get? (hI'.push { cls:= .type "list",data:= .seq ([]:List DW).toArray }).objs.size with
  | none=>rfl
  | some o=>exact absurd rfl (ne1 _ o q)
 have hC1:=noneS _ hCn;generalize hCe:(hI'.push { cls:= .type "list",data:= .seq ([]:List DW).toArray }).objs.size=C at *;refine bY (yv (s:=s1) (h4:=h4) (C:=C) (names:=names) hs hS X1 hc1 hc2 k1 hN hC1) fun XC W hloc=>?_;have hDC:hI'.objs.size≠C:=by refine yF hz ?_;exact D4 (EA _)
 have hDE:¬ cD (compEnvC scope clos C env) hI'.objs.size:=by
  rintro (q | ⟨x,q⟩)
  ·exact hDC q
  ·exact (X1.out _ (.inr ⟨x,mem_of_lookup (hc1 _ q)⟩)).2.1 hD1
 have XS:tC cx (compEnvC scope clos C env) fs names m (D0 names.length none) hI'.objs.size [] J1 H1 h4:=
  ⟨XC,fun q=>I1.aliveJ q hD1,dQ I1 hD1,hDE,#[],0,hDg,rfl,by simp⟩
 have hsbI:s1.heap.get? I=none:=by refine yF hIs ?_;exact cN _
 have itA:=hit.alive;have hIo:¬ uE (compEnvC scope clos C env) hI'.objs.size I:=by
  rintro ((q | ⟨x,q⟩) | q)
  ·have q:I=C:=q;rw[q,hCn]at itA;exact itA rfl
  ·exact (X1.out _ (.inr ⟨x,mem_of_lookup (hc1 _ q)⟩)).2.1 hsbI
  ·rw[q,hD]at itA;exact itA rfl
 have it4:g6 vs gd I 0 J1 h4:=hit.ext EB (fun a its n e=>k2 _ _ e) fun o e=>k2 _ _ e;have loop:∀ {R:Result->DQ->Prop} {tk:Nat},(∀ s',lT cx (compEnvC scope clos C env) fs names m c' hI'.objs.size avs' J1 H2 s1 s'->R (.ok .next) s')->
   codeAny cx.M A (.compLoop (.ListComp elt (⟨target,iter,ifs,0⟩::rest) scope pos) 0 (.ref I) (.ref hI'.objs.size) (compEnvC scope clos C env)) R { s1 with heap:=h4,toks:=tk }:=fun {R} {tk} hRR=>
  qq (cx:=cx) (cl:=cl) (n:=n) (sc:=ez scope sc) (R:=R) (res:=(c',H2,avs')) (Jb:=J1) (sb:=s1) (vs:=vs) (gd:=gd) (ifs:=ifs) (g:=g) rfl rfl ht (by refine yB heC ?_;exact hG) (by subst hs;rfl) hA W hloc hS.ne (dQ I1 hsbI) hsbI hIo hRR (vs.length - 0) 0 { s1 with heap:=h4,toks:=tk } J1 H1 _ [] rfl ⟨_,_,rfl⟩ (bV.of_keeps k1) XS (fun q=>I1.aliveJ q hsbI) it4 (by (refine yF HS ?_;refine yB hk ?_);exact e3)
 subst heC;have fin:∀ s',lT cx (compEnvC scope clos C env) fs names m c' hI'.objs.size avs' J1 H2 s1 s'->compPost cx.M A E' use Q (.ref hI'.objs.size) C (.ok .next) s':=by
  intro s' z2;refine am z2 fun sm2 z85=>?_;clear z2;refine af z85 fun J2 S2 X2=>?_;clear z85;refine aW X2.acc fun its q ho r z=>?_;have S2':bV J1 J2 s1.heap s'.heap bF:=⟨S2.pre,S2.new,fun b o e hJ _=>S2.keep b o e hJ (by
   rintro (w | w)
   ·have w:b=C:=w;rw[w,hC1]at e;cases e
   ·rw[w,hD1]at e;cases e),S2.tup,S2.alive⟩
  have Sall:=S1.trans S2';have I2:=X2.sctx.ctx.inv;have hsys:hI'.objs.size≠sysModules:=(I1.keeps kk).size_ne;have E:=ak.adopt (o:= .list avs') (ae sm1 sm2) Sall I2 X2.accJ (lU S1 hD1) X2.accB hsys ⟨its,q,ho,r.ext (E9 _ _) fun _ _ _ z=>z,z⟩;have hCJ:C∉J2++[hI'.objs.size]:=by
   intro w;rcases DZ.mp w with w | w
   ·exact (X2.sctx.ctx.out C (.inl rfl)).1 w
   ·exact hDC (DT.mp w).symm
  refine h _ s' C E X2.sctx.fr.ns (lU S1 hC1) ⟨J2++[hI'.objs.size],⟨Sall.pre.trans (E9 _ _),fun b hb'=> ?_,Sall.keep,Sall.tup,Sall.alive⟩,I2.adopt X2.accJ X2.accB hsys ⟨its,q,ho,r.ext (E9 _ _) fun _ _ _ z=>z,z⟩,⟨_,gx I2.rep.len,rfl⟩,hCJ⟩;rcases DZ.mp hb' with w | w
  ·exact Sall.new b w
  ·refine yF (DT.mp w) ?_;exact .inr (lU S1 hD1)
 exact o4 rfl (loop fin) (vz (s:={ s1 with heap:=h4,toks:=_ }) it4 (loop fin))
end
end Mine.Internal
end
section
open PySem PySem.W PyProof.Rows PySem.Calls
namespace Mine.Internal
section
variable {cx:Cx} {cl:aR} {n W:Nat} {sc:Scope} {fs cs:List DL} {A:Around} {E':DW->DQ->Prop} {s:DQ} {J:Jm} {H:Hp} {env:Env} {m c:aZ}
theorem uG{v:AV}{H':Hp}{acc:DW}{s':DQ}{C:Addr}{J':Jm}{h':Heap}{mm:DL->Option DW}{own:Addr->Prop}(S:bV J J' s.heap s'.heap own)(I:cf cx J' H' s'.heap)(r:cb J' s'.heap v acc)(hC:C∉J')(hN:s'.heap.Ns C mm)(hsC:s.heap.get? C=none)(hb:cx.hb.get? C=none)(hs:FE C s'.heap h'):
  bV J J' s.heap h' own/\cf cx J' H' h'/\cb J' h' v acc:=by
 have nt:=Ns.notTup hN;have T:∀ b its n,s'.heap.get? b=DJ (ba its n)->h'.get? b=DJ (ba its n):=fun b its n e=>(hs.2 b fun q=>nt its n (q ▸ e)).trans e;exact⟨S.extBut hs.extBut hsC,I.extBut hs.extBut hC hb nt,r.ext EB T⟩
theorem SE.comp{elt target iter:Expr}{rest:List Comprehension}{ifs:List Expr}{scope:Scope}{names:List DL}{pos:Pos}{k:Nat}{t:rW}{rng:Bool}{it:E}{g:G}(hS:gy scope sc names)(hk:k=names.length)(ht:ew names t target=true)(hns:iu iter=true)
  (hI:SI cx cl n sc fs cs rng it iter) (hG:SG cx cl n (ez scope sc) fs names (.ListComp elt (⟨target,iter,ifs,0⟩::rest) scope pos) elt (⟨target,iter,ifs,0⟩::rest) 1 g ifs):
  SE cx cl n sc fs cs (.comp k t rng it g) (.ListComp elt (⟨target,iter,ifs,0⟩::rest) scope pos):=by
 intro env A s J H m c v H' Q E' hs hA X e h;show D2 cx.M A (comprehension (.ListComp elt (⟨target,iter,ifs,0⟩::rest) scope pos) scope env iter.pos (newList []) false (eval iter env) none) Q E' s;refine qr rfl hS hk ht hns hI hG hs hA X e fun acc s' C p hN hC hJ=> ?_;refine aq hN ?_;clear hN;intro mm hN;refine fu hJ fun J' S I r hCJ=>?_;clear hJ;refine⟨mm,hN,fun h' hs'=> ?_⟩;refine bY (uG S I r hCJ hN hC (dQ X.inv hC) hs') fun S2 I2 r2=>?_;exact h _ _ ⟨ae p.1 ⟨h',s'.toks,rfl⟩,J',S2,I2,r2⟩
noncomputable def zD(J:Jm)(h:Heap):Fl->Flow->Prop
 | .next,f=>f= .next
 | .cont,f=>f= .cont
 | .ret v,f=>∃ val,f= .ret val/\cb J h v val
noncomputable def tE(cx:Cx)(env:Env)(fs:List DL)(m':aZ)(J:Jm)(H':Hp)(s:DQ)(fl:Fl)(f:Flow)(s':DQ):Prop:=
 (∃ h tk,s'={ s with heap:=h,toks:=tk })/\∃ J',bV J J' s.heap s'.heap (cD env)/\eK cx env fs [] m' [] J' H' s'.heap/\zD J' s'.heap fl f
noncomputable def SX(cx:Cx)(cl:aR)(n W:Nat)(sc:Scope)(fs:List DL)(st:S)(x:Stmt):Prop:=
 ∀ (env:Env) (A:Around) (s:DQ) (J:Jm) (H:Hp) (m:aZ) (fl:Fl) (m':aZ) (H':Hp) (Q:Flow->DQ->Prop) (E':DW->DQ->Prop),env.scope=sc->kl A n->dG env fs->eK cx env fs [] m [] J H s.heap->
  mG cl W st m H=DJ (fl,m',H')->(∀ f s',tE cx env fs m' J H' s fl f s'->Q f s')->D2 cx.M A (exec x env) Q E' s
noncomputable def wH(cx:Cx)(cl:aR)(n W:Nat)(sc:Scope)(fs:List DL)(eh:List S)(xs:List Stmt):Prop:=
 ∀ (env:Env) (A:Around) (s:DQ) (J:Jm) (H:Hp) (m:aZ) (fl:Fl) (m':aZ) (H':Hp) (Q:Flow->DQ->Prop) (E':DW->DQ->Prop),env.scope=sc->kl A n->dG env fs->eK cx env fs [] m [] J H s.heap->
  cF cl W eh m H=DJ (fl,m',H')->(∀ f s',tE cx env fs m' J H' s fl f s'->Q f s')->D2 cx.M A (execs xs env) Q E' s
theorem tE.trans(sm:∃ h tk,s1={ s with heap:=h,toks:=tk })(S:bV J J1 s.heap s1.heap (cD env))(p:tE cx env fs m' J1 H' s1 fl f s'):tE cx env fs m' J H' s fl f s':=
 am p fun sm2 q=>aM q fun J2 S2 X r=>⟨ae sm sm2,J2,S.trans S2,X,r⟩
theorem ak.x(X:eK cx env fs [] m [] J H s.heap)(p:ak cx J s v H' val s'):∃ J',(∃ h tk,s'={ s with heap:=h,toks:=tk })/\bV J J' s.heap s'.heap (cD env)/\eK cx env fs [] m [] J' H' s'.heap/\cb J' s'.heap v val:=
 am p fun sm q=>aM q fun J' S I r=>⟨J',sm,S.weaken fun _ x=>x.elim,X.step S I,r⟩
theorem wH.nil:wH cx cl n W sc fs [] []:=by
 intro env A s J H m fl m' H' Q E' hs hA Wd X e h;revert h;refine jC e ?_;intro h;exact Im (h _ s ⟨⟨_,_,rfl⟩,J,bV.refl _ _ _,X,rfl⟩)
theorem wH.cons{st:S}{x:Stmt}{eh:List S}{xs:List Stmt}(h1:SX cx cl n W sc fs st x)(h2:wH cx cl n W sc fs eh xs):wH cx cl n W sc fs (st::eh) (x::xs):=by
 intro env A s J H m fl m' H' Q E' hs hA Wd X e h;refine Bk e ?_;intro f1 m1 H1 e1 e2;dsimp only at e2;refine Kc (h1 env A s J H m f1 m1 H1 _ E' hs hA Wd X e1 fun f s' p=> ?_);refine am p fun sm z16=>?_;clear p;refine aM z16 fun J' S X' r=>?_;clear z16;cases f1 with
 | next=>
  cases r;exact h2 env A s' J' H1 m1 fl m' H' Q E' hs hA Wd X' e2 fun f s'' p=>h f s'' (p.trans sm S)
 | cont=>cases r;revert h;refine jC e2 ?_;intro h;exact h _ _ ⟨sm,J',S,X',rfl⟩
 | ret v=>(refine af r ?_;clear r;intro val z2 r;subst z2);revert h;refine jC e2 ?_;intro h;exact h _ _ ⟨sm,J',S,X',val,rfl,r⟩
theorem SX.ret(h1:SE cx cl n sc fs [] e x):SX cx cl n W sc fs (.ret e) (.Return (DJ x) pos):=by
 intro env A s J H m fl m' H' Q E' hs hA Wd X e0 h;refine bN e0 ?_;intro v H1 e1 e2;revert h;refine jC e2 ?_;intro h;with_reducible refine wpAny_Return_some ?_
 refine h1 env A s J H m [] v _ _ _ hs hA X.ctx e1 fun val s' p=> ?_;refine fu (p.x X) fun J' sm S X' r=>?_;exact h _ _ ⟨sm,J',S,X',val,rfl,r⟩
theorem SX.cont:SX cx cl n W sc fs .cont (.Continue pos):=by
 intro env A s J H m fl m' H' Q E' hs hA Wd X e0 h;revert h;refine jC e0 ?_;intro h;exact wpAny_Continue (h _ s ⟨⟨_,_,rfl⟩,J,bV.refl _ _ _,X,rfl⟩)
theorem SX.pass:SX cx cl n W sc fs .pass (.Pass pos):=by
 intro env A s J H m fl m' H' Q E' hs hA Wd X e0 h;revert h;refine jC e0 ?_;intro h;exact wpAny_Pass (h _ s ⟨⟨_,_,rfl⟩,J,bV.refl _ _ _,X,rfl⟩)
theorem SX.fail:SX cx cl n W sc fs .fail x:=by
 intro env A s J H m fl m' H' Q E' hs hA Wd X e0 h;exact nO e0
noncomputable def j9(e:Expr):Bool:= !(HG e.ctorIdx 8 || Nat.beq e.ctorIdx 9 || Nat.beq e.ctorIdx 10)
theorem fQ(h:j9 x=true):swapsWith x t l env=pure false:=by
 cases x<;>first | rfl | exact fT h
theorem m6(h:env.scope.kind= .function):interactive env=false:=by unfold interactive;refine yF h ?_;rfl
theorem SX.expr(h1:SE cx cl n sc fs [] e x)(hx:j9 x=true):SX cx cl n W sc fs (.expr e) (.Expr x pos):=by
 intro env A s J H m fl m' H' Q E' hs hA Wd X e0 h;refine bN e0 ?_;intro v H1 e1 e2;revert h;refine jC e2 ?_;intro h;refine wpAny_Expr_any ?_ (m6 Wd.fn) (fQ hx);refine h1 env A s J H m [] v _ _ _ hs hA X.ctx e1 fun val s' p=> ?_;refine fu (p.x X) fun J' sm S X' r=>?_;exact h _ _ ⟨sm,J',S,X',rfl⟩
theorem SX.ite{xt:Expr}(h1:ST cx cl n sc fs [] t xt)(h2:wH cx cl n W sc fs b xb)(h3:wH cx cl n W sc fs o xo):SX cx cl n W sc fs (.ite t b o) (.If xt xb xo pos):=by
 intro env A s J H m fl m' H' Q E' hs hA Wd X e0 h;refine bN e0 ?_;intro r H1 e0 e4;refine bN e0 ?_;intro v H2 e1 e0;refine ka e0 ?_;intro t' e2 e3;try dsimp only at e4
 revert e1 e2;refine jS e3 ?_;intro e1 e2;with_reducible refine wpAny_If ?_
 refine h1 env A s J H m [] v _ _ _ _ hs hA X.ctx e1 e2 fun s' p=> ?_;refine fu (p.x X) fun J' sm S X' uu=>?_;cases r with
 | true=>exact h2 env A s' J' _ m fl m' H' Q E' hs hA Wd X' e4 fun f s'' p=>h f s'' (p.trans sm S)
 | false=>exact h3 env A s' J' _ m fl m' H' Q E' hs hA Wd X' e4 fun f s'' p=>h f s'' (p.trans sm S)
noncomputable def uH:Expr->Expr->Bool
 | .Name _ _,_=>true
 | .Tuple _ _ _,.Tuple _ _ _=>false
 | .Tuple _ _ _,_=>true
 | _,_=>false
theorem kn(h:uH t x=true):swappedStores [t] x env=pure none:=by
 cases t<;>first | (exact fT h;done) | skip
 ·cases x<;>first | rfl | cases h
 ·cases x<;>first | rfl | exact fT h
theorem SX.asg{xt x:Expr}(h1:SE cx cl n sc fs [] e x)(ht:ew fs t xt=true)(hsw:∀ env:Env,env.scope=sc->swapsWith x (DJ xt) pos.line env=pure false)(hst:uH xt x=true):
  SX cx cl n W sc fs (.assign t e) (.Assign [xt] x pos):=by
 intro env A s J H m fl m' H' Q E' hs hA Wd X e0 h;refine bN e0 ?_;intro v H1 e1 e0;refine ka e0 ?_;intro m1 e2 e3;revert h;refine jC e3 ?_;intro h;refine IZ ?_ (hsw env hs) (kn hst);refine h1 env A s J H m [] v _ _ _ hs hA X.ctx e1 fun val s' p=> ?_;refine fu (p.x X) fun J' sm S X' r=>?_;have he:(assignEach [xt] env).map (·.2)=[GO xt env]:=by
  cases xt<;>first | rfl | (exact fT hst;done)
 refine yF he ?_;show D2 cx.M A (GO xt env val) _ E' s';refine jO hA.hh Wd ht e2 X' r fun s'' hst2=> ?_;exact h _ _ ⟨ae sm hst2.1,J',S.trans hst2.2.1,hst2.2.2,rfl⟩
theorem SX.stAttr(hC:f7 cx)(hK:lP cx)(h1:SE cx cl n sc fs [] e x)(h2:SE cx cl n sc fs [] o xo)(hn:decide (name.cps.toList=nm)=true)(hx:j9 x=true):
  SX cx cl n W sc fs (.setAttr o nm e) (.Assign [.Attribute xo name pos'] x pos):=by
 intro env A s J H m fl m' H' Q E' hs hA Wd X e0 h;refine bN e0 ?_;intro v H1 e1 e0;refine bN e0 ?_;intro y H2 e2 e0;refine ka e0 ?_;intro H3 e3 e4;revert h;refine jC e4 ?_;intro h;have hname:name=⟨nm.toArray⟩:=by
  rw[decide_eq_true_eq]at hn;cases name;simp only at hn;subst hn;simp
 subst hname;refine plainObj_wpAny_Assign_Attribute ?_ (fQ hx);refine h1.then h2 hs hA X.ctx e1 e2 fun va vo s' J' sm S X' ra ro=> ?_;have XS:=X.step S X'.inv;refine ql hC hK X'.inv ro ra e3 fun s'' p=> ?_;refine fu (p.x XS) fun J2 sm2 S2 X2 uu=>?_;exact h _ _ ⟨ae sm sm2,J2,(S.weaken fun _ x=>x.elim).trans S2,X2,rfl⟩
set_option tactic.hygienic true in
theorem tG{Q:Unit->DQ->Prop}(hA:kl A n)(I:cf cx J H s.heap)(ro:cb J s.heap o vo)(ri:cb J s.heap i vi)(rv:cb J s.heap v val)(h:dq H o i v=DJ H')(hQ:∀ s',ak cx J s .none H' .none s'->Q () s'):
  D2 cx.M A (setItem vo vi val) Q E' s:=by
 have hu':A.units+70<cLine:=by have:=hA.hu;exact bu (nat_lit 407295010392777578944) tt this
 unfold dq at h;split at h
 ·rename_i k;refine af ro fun a hJ z3=>?_;clear ro;subst z3;split at h
  ·rename_i vs hk;split at h
   ·split at h
    ·rename_i q;revert hQ;refine jA h ?_;intro hQ;refine aq ri fun t z2=>?_;clear ri;subst z2;exact pB I hJ hk q.1 q.2 rv (fun h' tk S I'=>hQ _ ⟨⟨h',tk,rfl⟩,J,S,I',rfl⟩)
    ·exact nO h
   ·exact nO h
  ·rename_i es hk;split at h
   ·rename_i q;revert hQ;refine jA h ?_;intro hQ;exact pA hu' I hJ hk ri q.1 rv q.2 fun h' tk S I'=>hQ _ ⟨⟨h',tk,rfl⟩,J,S,I',rfl⟩
   ·exact nO h
  ·exact nO h
 ·exact nO h
theorem SX.stSub(h1:SE cx cl n sc fs [] e x)(h2:SE cx cl n sc fs [] o xo)(h3:SE cx cl n sc fs [] i xi)(hx:j9 x=true):SX cx cl n W sc fs (.setSub o i e) (.Assign [.Subscript xo xi pos'] x pos):=by
 intro env A s J H m fl m' H' Q E' hs hA Wd X e0 h;refine bN e0 ?_;intro v H1 e1 e0;refine bN e0 ?_;intro y H2 e2 e0;refine bN e0 ?_;intro z H3 e3 e0;refine ka e0 ?_;intro H4 e4 e5;revert h;refine jC e5 ?_;intro h;refine wpAny_Assign_Subscript ?_ (fQ hx);refine h1.one hs hA X.ctx e1 fun va s1 J1 sm1 S1 X1 ra=> ?_;refine h2.then h3 hs hA X1 e2 e3 fun vo vi s' J' sm S X' ro ri=> ?_;have XS:=X.step (S1.trans S) X'.inv;refine tG hA X'.inv ro ri (ra.mono S) e4 fun s'' p=> ?_;refine fu (p.x XS) fun J2 sm2 S2 X2 uu=>?_;exact h _ _ ⟨ae sm1 (ae sm sm2),J2,((S1.trans S).weaken fun _ x=>x.elim).trans S2,X2,rfl⟩
end
end Mine.Internal
end
section
open PySem PySem.W PyProof.Rows PySem.Calls
namespace Mine.Internal
section
variable {cx:Cx} {cl:aR} {n W:Nat} {sc:Scope} {fs cs:List DL} {A:Around} {E':DW->DQ->Prop} {s:DQ} {J:Jm} {H:Hp} {env:Env} {m c:aZ}
theorem SX.used{elt target iter:Expr}{rest:List Comprehension}{ifs:List Expr}{scope:Scope}{names:List DL}{pos spos py:Pos}{y:DL}{i k:Nat}{t:rW}{rng:Bool}{it:E}{g:G}(hS:gy scope sc names)(hk:k=names.length)(ht:ew names t target=true)(hns:iu iter=true)
  (hI:SI cx cl n sc fs [] rng it iter) (hG:SG cx cl n (ez scope sc) fs names (.ListComp elt (⟨target,iter,ifs,0⟩::rest) scope pos) elt (⟨target,iter,ifs,0⟩::rest) 1 g ifs) (hy:ew fs (.one i) (.Name y py)=true)
  (hsw:∀ env:Env,env.scope=sc->swapsWith (.ListComp elt (⟨target,iter,ifs,0⟩::rest) scope pos) (DJ (.Name y py)) spos.line env=pure true):
  SX cx cl n W sc fs (.assign (.one i) (.comp k t rng it g)) (.Assign [.Name y py] (.ListComp elt (⟨target,iter,ifs,0⟩::rest) scope pos) spos):=by
 intro env A s J H m fl m' H' Q E' hs hA Wd X e0 h;refine bN e0 ?_;intro v H1 e1 e0;refine ka e0 ?_;intro m1 e2 e3;revert h;refine jC e3 ?_;intro h;refine yF (exec_Assign_Name_used _ _ _ _ (hsw env hs)) ?_;refine DM (FQ (DM ?_));show D2 _ A (do let _ <- comprehension (.ListComp elt (⟨target,iter,ifs,0⟩::rest) scope pos) scope env iter.pos (newList []) false (eval iter env) (DJ (GO (.Name y py) env))) _ _ s;refine DM (Fm (qr (use:=DJ (GO (.Name y py) env)) (Q:=fun _ s'=>Q .next s') rfl hS hk ht hns hI hG hs hA X.ctx e1 fun acc s' C p hN hC hJ=> ?_) (fun _ s' hq=>DP (DP hq)) fun _ _ e=>e);refine aq hN ?_;clear hN;intro mm hN;refine fu hJ fun J' S I r hCJ=>?_;clear hJ;have X':=X.step S I;refine jO hA.hh Wd hy e2 X' r fun s'' hst=> ?_;refine bY hst fun sm2 S2 X2=>?_;clear hst;have hCE:¬ cD env C:=fun q=>(X.ctx.out C q).2.1 hC;have hN2:s''.heap.Ns C mm:=by
  refine lb hN fun o es ep e rr=>?_;clear hN;exact⟨o,es,ep,S2.keep _ _ e hCJ hCE,rr⟩
 refine⟨mm,hN2,fun h' hs'=>h _ _ ⟨ae p.1 (ae sm2 ⟨h',s''.toks,rfl⟩),J',?_,X2.extBut hs'.extBut hCJ (dQ X.ctx.inv hC) (Ns.notTup hN2) hCE,rfl⟩⟩;exact ((S.weaken fun _ x=>x.elim).trans S2).extBut hs'.extBut hC
theorem AU{Q:DW->DQ->Prop}(hk:env.scope.kind= .function)(hv:ib env s.heap x v)(hd2:(x == ("__classdict__" :DL))=false)(h:Q v s):D2 cx.M A (loadName env x) Q E' s:=by
 rcases hv with⟨k,mm,N,q⟩ | ⟨k | k,c,l,ic⟩
 ·exact IN hk k N q h
 ·exact IX hk k l ic h
 ·exact IY hk k l ic h hd2
noncomputable def lV:Op->Bool
 | .add=>true
 | .sub=>true
 | .bor=>true
 | _=>false
theorem o5(h:lV o=true):o= .add\/o= .sub\/o= .bor:=by cases o<;>simp_all [lV]
theorem SX.augLoc(h1:SE cx cl n sc fs [] e x)(hy:ew fs (.one i) (.Name y py)=true)(hd2:(y == ("__classdict__" :DL))=false)(ho:lV op=true):
  SX cx cl n W sc fs (.augLoc i op e) (.AugAssign (.Name y py) (kR op) x pos):=by
 intro env A s J H m fl m' H' Q E' hs hA Wd X e0 h;refine bN e0 ?_;intro old H1 e1 e0;refine bN e0 ?_;intro v H2 e2 e0;refine bN e0 ?_;intro r H3 e3 e0;refine ka e0 ?_;intro m1 e4 e5;revert h;refine jC e5 ?_;intro h;have hyi:fs[i]? =DJ y:=by unfold ew at hy;exact beq_iff_eq.mp hy
 have e:exec (.AugAssign (.Name y py) (kR op) x pos) env=(do
   standAt py
   let old <- loadName env y
   let v <- holding [old] (eval x env)
   standAt pos
   let new <- operate [old,v] (inplaceOp (kR op) old v)
   GO (.Name y py) env new
   pure .next):=rfl
 refine yF e ?_;refine am (qJ e1) fun q z2=>?_;subst z2
 ·
  refine af (X.ctx.fv i y _ hyi (fun z=>absurd rfl z) q) fun val rv hv=>?_;refine DM (FQ (DM (AU Wd.fn hv hd2 ?_)));refine DM (E0 (h1.one hs hA X.ctx e2 fun va s' J' sm S X' ra=> ?_));have XS:=X.step S X'.inv;refine DM (FQ (DM (wpAny_operating (Fm (rI (o5 ho) X'.inv (rv.mono S) ra e3) (fun new s2 p=> ?_) fun _ _ z=>z))));refine fu (p.x XS) fun J2 sm2 S2 X2 r2=>?_;refine DM (jO hA.hh Wd hy e4 X2 r2 fun s3 hst=> ?_);exact DP (h _ _ ⟨ae sm (ae sm2 hst.1),J2,((S.weaken fun _ x=>x.elim).trans S2).trans hst.2.1,hst.2.2,rfl⟩)
theorem SX.augAttr(hC:f7 cx)(hK:lP cx)(h1:SE cx cl n sc fs [] o xo)(h2:SE cx cl n sc fs [] e x)(hn:decide (name.cps.toList=nm)=true)(ho:lV op=true):
  SX cx cl n W sc fs (.augAttr o nm op e) (.AugAssign (.Attribute xo name pos') (kR op) x pos):=by
 intro env A s J H m fl m' H' Q E' hs hA Wd X e0 h;refine bN e0 ?_;intro y H1 e1 e0;refine ka e0 ?_;intro old e2 e0;refine bN e0 ?_;intro v H2 e3 e0;refine bN e0 ?_;intro r H3 e4 e0;refine ka e0 ?_;intro H4 e5 e6;revert h;refine jC e6 ?_;intro h;have hname:name=⟨nm.toArray⟩:=by
  rw[decide_eq_true_eq]at hn;cases name;simp only at hn;subst hn;simp
 subst hname;refine wpAny_AugAssign_AttributeAny (h1.one hs hA X.ctx e1 fun vo s1 J1 sm1 S1 X1 ro=> ?_);refine qk hC hK X1.inv ro e2 fun vold tk rold=> ?_;have X1':kY cx env fs [] m [] J1 H1 ({ s1 with toks:=tk }:DQ).heap:=X1;refine h2.one (s:={ s1 with toks:=tk }) hs hA X1' e3 fun va s' J' sm S X' ra=> ?_;refine Fm (rI (o5 ho) X'.inv (rold.mono S) ra e4) (fun new s2 p=> ?_) fun _ _ z=>z;refine am p fun sm2 z16=>?_;clear p;refine aM z16 fun J2 S2 I2 r2=>?_;clear z16;have ro2:cb J2 s2.heap y vo:=(ro.mono S).mono S2;refine ql hC hK I2 ro2 r2 e5 fun s3 p3=> ?_;have XS:=X.step (S1.trans (S.trans S2)) I2;refine fu (p3.x XS) fun J3 sm3 S3 X3 uu=>?_;exact h _ _ ⟨ae sm1 (ae ⟨_,tk,rfl⟩ (ae sm (ae sm2 sm3))),J3,((S1.trans (S.trans S2)).weaken fun _ x=>x.elim).trans S3,X3,rfl⟩
set_option tactic.hygienic true in
theorem yw(hA:kl A n)(I:cf cx J H s.heap)(ro:cb J s.heap o vo)(ri:cb J s.heap i vi)(h:fS H o i=DJ v):D2 cx.M A (getItem vo vi) (ak cx J s v H) E' s:=by
 have hu:A.units+70<cLine:=by have:=hA.hu;exact bu (nat_lit 407295010392777578944) tt this
 cases o with
 | tup vs=>
  cases i with
  | int i=>
   refine aq ri fun t z2=>?_;clear ri;subst z2;exact i9 I ro h
  | _=>exact nO h
 | ref k=>
  refine af ro fun a hJ z3=>?_;clear ro;subst z3;rewrite [kG]at h;split at h
  ·rename_i vs hk;cases i with
   | int i=>
    refine aq ri fun t z2=>?_;clear ri;subst z2;exact kj I hJ hk h
   | _=>exact nO h
  ·rename_i es hk;refine ifs h ?_;clear h;intro q h;exact kh hu I hJ hk ri q h
  ·exact nO h
 | _=>exact nO h
theorem SX.augSub(h1:SE cx cl n sc fs [] o xo)(h2:SE cx cl n sc fs [] i xi)(h3:SE cx cl n sc fs [] e x)(hi:iO xi=true)(ho:lV op=true):
  SX cx cl n W sc fs (.augSub o i op e) (.AugAssign (.Subscript xo xi pos') (kR op) x pos):=by
 intro env A s J H m fl m' H' Q E' hs hA Wd X e0 h;refine bN e0 ?_;intro y H1 e1 e0;refine bN e0 ?_;intro z H2 e2 e0;refine ka e0 ?_;intro old e3 e0;refine bN e0 ?_;intro v H3 e4 e0;refine bN e0 ?_;intro r H4 e5 e0;refine ka e0 ?_;intro H5 e6 e7;revert h;refine jC e7 ?_;intro h;refine wpAny_AugAssign_SubscriptAny (h1.then h2 hs hA X.ctx e1 e2 fun vo vi s1 J1 sm1 S1 X1 ro ri=> ?_) (by intro ov iv new;cases xi<;>first | rfl | exact fT hi);refine Fm (yw hA X1.inv ro ri e3) (fun vold s2 p2=> ?_) fun _ _ z=>z;refine am p2 fun sm2 z16=>?_;clear p2;refine aM z16 fun J2 S2 I2 r2=>?_;clear z16;refine h3.one hs hA (X1.step S2 I2) e4 fun va s' J' sm S X' ra=> ?_;refine Fm (rI (o5 ho) X'.inv (r2.mono S) ra e5) (fun new s3 p3=> ?_) fun _ _ z=>z;refine am p3 fun sm3 z16=>?_;clear p3;refine aM z16 fun J3 S3 I3 r3=>?_;clear z16;have S13:=(S2.trans S).trans S3;refine tG hA I3 (ro.mono S13) (ri.mono S13) r3 e6 fun s4 p4=> ?_;have XS:=X.step (S1.trans S13) I3;refine fu (p4.x XS) fun J4 sm4 S4 X4 uu=>?_;exact h _ _ ⟨ae sm1 (ae sm2 (ae sm (ae sm3 sm4))),J4,((S1.trans S13).weaken fun _ x=>x.elim).trans S4,X4,rfl⟩
theorem SX.while_{xt:Expr}(h1:ST cx cl n sc fs [] t xt)(h2:wH cx cl n W sc fs b xb):SX cx cl n W sc fs (.while_ t b) (.While xt xb [] pos):=by
 intro env A s J H m fl m' H' Q E' hs hA Wd X e0 h;with_reducible refine wpAny_While ?_
 refine codeAny_whileLoop (fun k s1=>∃ J1 H1 m1,eX (f9 cl t) (fun m h=>cF cl W b m h) k m1 H1=DJ (fl,m',H')/\(∃ h tk,s1={ s with heap:=h,toks:=tk })/\bV J J1 s.heap s1.heap (cD env)/\eK cx env fs [] m1 [] J1 H1 s1.heap) ?_ W ⟨J,H,m,e0,⟨_,_,rfl⟩,bV.refl _ _ _,X⟩;intro k s1 z3;refine dH z3 fun J1 H1 m1 e1 sm1 S1 X1=>?_;clear z3;cases k with
 | zero=>exact nO e1
 | succ k=>
  have tst:∀ {x:Bool} {H2:Hp} {Q2:Bool->DQ->Prop} {E2:DW->DQ->Prop},f9 cl t m1 H1=DJ (x,H2)->(∀ s2,(∃ J2,(∃ h tk,s2={ s1 with heap:=h,toks:=tk })/\bV J1 J2 s1.heap s2.heap (cD env)/\eK cx env fs [] m1 [] J2 H2 s2.heap)->Q2 x s2)->D2 cx.M A (Hu xt env (eval xt env)) Q2 E2 s1:=by
   intro x H2 Q2 E2 ht k;refine bN ht ?_;intro v H3 a1 ht;refine ka ht ?_;intro t' a2 a3;revert a1 ht a2;refine jS a3 ?_;intro a1 ht a2;refine h1 env A s1 J1 H1 m1 [] v _ x _ _ hs hA X1.ctx a1 a2 fun s2 p=>k s2 ?_;refine fu (p.x X1) fun J2 sm2 S2 X2 uu=>?_;exact⟨J2,sm2,S2,X2⟩
  refine si e1 ?_ ?_ ?_
  ·intro H2 ht e;revert h e1;refine jV e ?_;intro h e1;refine tst ht fun s2 z=>aM z fun J2 sm2 S2 X2=> ?_;refine yF (if_neg EY) ?_;exact Im (h _ _ ⟨ae sm1 sm2,J2,S1.trans S2,X2,rfl⟩)
  ·intro H2 v2 m2 H4 ht hb e;revert h e1;refine jV e ?_;intro h e1;refine tst ht fun s2 z=>aM z fun J2 sm2 S2 X2=> ?_;refine yF (if_pos rfl) ?_;refine h2 env A s2 J2 _ m1 _ _ _ _ _ hs hA Wd X2 hb fun f s3 p3=> ?_;refine am p3 fun sm3 z16=>?_;clear p3;refine aM z16 fun J3 S3 X3 r3=>?_;clear z16;refine af r3 ?_;clear r3;intro val z2 r3;subst z2;exact h _ _ ⟨ae sm1 (ae sm2 sm3),J3,S1.trans (S2.trans S3),X3,val,rfl,r3⟩
  ·intro H2 f2 m2 H4 ht hb hnr e1;refine tst ht fun s2 z=>aM z fun J2 sm2 S2 X2=> ?_;refine yF (if_pos rfl) ?_;refine h2 env A s2 J2 _ m1 f2 m2 H4 _ _ hs hA Wd X2 hb fun f s3 p3=> ?_;refine am p3 fun sm3 z16=>?_;clear p3;refine aM z16 fun J3 S3 X3 r3=>?_;clear z16;have fin:∃ mm,mm<k+1/\∃ J1 H1 m1,eX (f9 cl t) (fun m h=>cF cl W b m h) mm m1 H1=DJ (fl,m',H')/\(∃ h tk,s3={ s with heap:=h,toks:=tk })/\bV J J1 s.heap s3.heap (cD env)/\eK cx env fs [] m1 [] J1 H1 s3.heap:=
    ⟨k,EA _,J3,H4,m2,e1,ae sm1 (ae sm2 sm3),S1.trans (S2.trans S3),X3⟩
   cases f2 with
   | next=>cases r3;exact fin
   | cont=>cases r3;exact fin
   | ret v=>exact (hnr v rfl).elim
theorem SX.for_{rng:Bool}{xt iter:Expr}(hI:SI cx cl n sc fs [] rng it iter)(ht:ew fs t xt=true)(hns:iu iter=true)(h2:wH cx cl n W sc fs b xb):SX cx cl n W sc fs (.for_ t rng it b) (.For xt iter xb [] pos):=by
 intro env A s J H m fl m' H' Q E' hs hA Wd X e0 h;refine bN e0 ?_;intro y H1 e1 e0;refine bN e0 ?_;intro vs gd e2 e3;try dsimp only at e3
 refine wpAny_For ?_ (jd hns);refine hI env A s J H m [] y H1 vs gd _ _ hs hA X.ctx e1 e2 fun xv s1 J1 sm1 S1 I1 hready=> ?_;refine hready _ fun I h' hIs kk hit=> ?_;have X1:=X.step S1 I1;have hsb:s1.heap.get? I=none:=by refine yF hIs ?_;exact cN _
 have hb:cx.hb.get? I=none:=dQ I1 hsb;have hIo:¬ cD env I:=fun q=>(X1.ctx.out I q).2.1 hsb;have kkS:bV J1 J1 s1.heap h' bF:=bV.of_keeps kk;refine codeAny_forLoop_any (fun k s2=>∃ i J2 H2 m2,k=vs.length - i/\gC gd t (fun m h=>cF cl W b m h) (vs.drop i) m2 H2=DJ (fl,m',H')/\(∃ h tk,s2={ s1 with heap:=h,toks:=tk })/\bV J1 J2 s1.heap s2.heap (cD env)/\eK cx env fs [] m2 [] J2 H2 s2.heap/\I∉J2/\g6 vs gd I i J2 s2.heap) ?_ (vs.length - 0)
  ⟨0,J1,H1,m,rfl,by refine yF HS ?_;exact e3,⟨h',_,rfl⟩,kkS.weaken fun _ x=>x.elim,X1.step kkS (I1.keeps kk),fun q=>I1.aliveJ q hsb,hit⟩
 intro k s2 z3;refine yK z3 fun i J2 H2 m2 hk e3 sm2 S2 X2 hI2 hit2=>?_;clear z3;by_cases hlt:i<vs.length
 ·rw[EO hlt]at e3;refine vP e3 ?_ ?_
  ·intro m3 v5 m5 H5 hgd hbd hbody e;revert h e3;refine jV e ?_;intro h e3;refine rS X2.ctx.inv hit2 hgd hI2 (Em hlt) fun val h3 tk hs3 it3 rv=> ?_;have nt:=hit2.notTup;have X3:eK cx env fs [] m2 [] J2 H2 h3:=X2.extBut hs3.extBut hI2 hb nt hIo;have S3:bV J1 J2 s1.heap h3 (cD env):=S2.extBut hs3.extBut hsb;refine o0 (s:={ s2 with heap:=h3,toks:=tk }) it3 ?_;refine jO (s:={ s2 with heap:=h3,toks:=tk }) hA.hh Wd ht hbd X3 rv fun s4 hst=> ?_;refine bY hst fun sm4 S4 X4=>?_;clear hst;have it4:g6 vs gd I (i+1) J2 s4.heap:=it3.ext EB S4.tup fun o e=>S4.keep _ _ e hI2 hIo;refine h2 env A s4 J2 H2 m3 _ _ _ _ _ hs hA Wd X4 hbody fun f s5 p5=> ?_;refine am p5 fun sm5 z16=>?_;clear p5;refine aM z16 fun J5 S5 X5 z86=>?_;clear z16;refine af z86 fun val5 z142 r5=>?_;clear z86;subst z142;exact h _ _ ⟨ae sm1 (ae sm2 (ae ⟨_,_,rfl⟩ (ae sm4 sm5))),J5,(S1.weaken fun _ x=>x.elim).trans ((S3.trans S4).trans S5),X5,val5,rfl,r5⟩
  ·intro m3 f5 m5 H5 hgd hbd hbody hnr e3;refine rS X2.ctx.inv hit2 hgd hI2 (Em hlt) fun val h3 tk hs3 it3 rv=> ?_;have nt:=hit2.notTup;have X3:eK cx env fs [] m2 [] J2 H2 h3:=X2.extBut hs3.extBut hI2 hb nt hIo;have S3:bV J1 J2 s1.heap h3 (cD env):=S2.extBut hs3.extBut hsb;refine o0 (s:={ s2 with heap:=h3,toks:=tk }) it3 ?_;refine jO (s:={ s2 with heap:=h3,toks:=tk }) hA.hh Wd ht hbd X3 rv fun s4 hst=> ?_;refine bY hst fun sm4 S4 X4=>?_;clear hst;have it4:g6 vs gd I (i+1) J2 s4.heap:=it3.ext EB S4.tup fun o e=>S4.keep _ _ e hI2 hIo;refine h2 env A s4 J2 H2 m3 f5 m5 H5 _ _ hs hA Wd X4 hbody fun f s5 p5=> ?_;refine am p5 fun sm5 z16=>?_;clear p5;refine aM z16 fun J5 S5 X5 r5=>?_;clear z16;have fin:∃ mm,mm<k/\∃ i J2 H2 m2,mm=vs.length - i/\gC gd t (fun m h=>cF cl W b m h) (vs.drop i) m2 H2=DJ (fl,m',H')/\(∃ h tk,s5={ s1 with heap:=h,toks:=tk })/\bV J1 J2 s1.heap s5.heap (cD env)/\eK cx env fs [] m2 [] J2 H2 s5.heap/\I∉J2/\g6 vs gd I i J2 s5.heap:=
    ⟨vs.length - (i+1),by omega,i+1,J5,H5,m5,rfl,e3,ae sm2 (ae ⟨_,_,rfl⟩ (ae sm4 sm5)),(S3.trans S4).trans S5,X5,fun w=>(S5.new I w).elim hI2 (it4.alive ·),it4.ext S5.pre S5.tup fun o e=>S5.keep _ _ e hI2 hIo⟩
   cases f5 with
   | next=>cases r5;exact fin
   | cont=>cases r5;exact fin
   | ret v=>exact (hnr v rfl).elim
 ·have hge:vs.length<=i:=Fe.mp hlt;rw[Ii hge]at e3;rewrite [Bv]at e3;refine ifs e3 ?_;clear e3;intro hgd e3
  ·revert h;refine jC e3 ?_;intro h;refine yt hA.hh X2.ctx.inv hit2 hgd hge fun h3 tk hs3=> ?_;refine Im (h _ _ ⟨ae sm1 (ae sm2 ⟨h3,tk,rfl⟩),J2,(S1.weaken fun _ x=>x.elim).trans (S2.extBut hs3 hsb),X2.extBut hs3 hI2 hb hit2.notTup hIo,rfl⟩)
end
end Mine.Internal
end
section
open PySem PySem.W PyProof.Rows PySem.Calls
namespace Mine.Internal
variable {M:Model} {A:Around} {E':DW->DQ->Prop} {s:DQ}
theorem kW:∀ {pn:List DL} {vals:List DW},pn.length=vals.length->∀ x∈pn,((pn.zip vals).lookup x).isNone=false
 | [],_,_,x,hx=>by cases hx
 | p::pn,[],h,x,hx=>by simp at h
 | p::pn,v::vals,h,x,hx=>by
  dsimp only[HD];dsimp only[Fd];cases q:x == p with
  | true=>rfl
  | false=>
   simp only;refine kW (by simpa using h) x ?_;cases hx with
   | head=>simp at q
   | tail _ hx=>exact hx
theorem pE:∀ {pn:List DL} {vals:List DW},pn.length=vals.length->pn.Nodup->pn.filterMap (fun n=>((pn.zip vals).lookup n).map (n,·))=pn.zip vals:=by
 intro pn vals h nd;have key:∀ (pn:List DL) (vals:List DW) (pre:List (DL × DW)),pn.length=vals.length->pn.Nodup->(∀ x∈pn,pre.lookup x=none)->pn.filterMap (fun n=>((pre++pn.zip vals).lookup n).map (n,·))=pn.zip vals:=by
  intro pn;induction pn with
  | nil=>intro vals pre h _ _;simp
  | cons p pn ih=>
   intro vals pre h nd hp;cases vals with
   | nil=>simp at h
   | cons v vals=>
    have e1:(pre++(p::pn).zip (v::vals)).lookup p=DJ v:=by
     refine DK Ju ?_;refine yF (hp p Fi) ?_;dsimp only[HD];dsimp only[Fd];simp
    dsimp only[I5];refine yF e1 ?_;simp only[KG,HD,FX,true_and];have:=ih vals (pre++[(p,v)]) (by simpa using h) nd.tail (fun x hx=>by
     refine DK Ju ?_;refine yF (hp x (EM _ hx)) ?_;have:(x == p)=false:=by
      rewrite[beq_eq_false_iff_ne];rintro rfl;exact (FY.mp nd).1 hx
     simp[Fd,this])
    simpa[D1] using this
 simpa using key pn vals [] h nd (fun x _=>rfl)
theorem uI(hp:fd.params=⟨[],args,none,[],[],none,dfl⟩)(hlen:(args.map (·.arg)).length=vals.length)(nd:(args.map (·.arg)).Nodup)
  (hd:Looks M s.heap (seqItems? fd.defaults) r) {Q:List (DL × DW)->DQ->Prop} (h:Q ((args.map (·.arg)).zip vals) s):D2 M A (bindArgs fd ⟨vals,[]⟩) Q E' s:=by
 unfold bindArgs;refine yF hp ?_;simp only[JO,List.nil_append,EC,Gn];refine DM (DP (DM (hd.here ?_)));have hng:¬ (vals.length>(args.map (·.arg)).length):=Gh (bu (nat_lit 336606209) tt hlen);generalize args.map (·.arg)=pn at *;simp only[decide_eq_false hng,K4,EJ,if_false,JO,EC];have hfil:List.filter (fun n=>(HN n (pn.zip vals)).isNone) (List.take (pn.length - (List.drop ((r.getD #[]).toList.length - pn.length) (r.getD #[]).toList).length) pn)=[]:=by
  rewrite[He];intro x hx;refine yF (kW hlen x (FC hx)) ?_;decide
 refine yF hfil ?_;simp only[Kd,ET,EJ,if_false];have same:∀ (l:List (DL × DW)),(∀ x∈l,x.1∈pn)->∀ {Q':List (DL × DW)->DQ->Prop},Q' (pn.zip vals) s->
   D2 M A (forIn l (pn.zip vals) fun x __s=>if (HN x.fst __s).isNone=true then pure (FK (__s++[(x.fst,x.snd)])) else pure (FK __s)) Q' E' s:=by
  intro l;induction l with
  | nil=>intro _ Q' hq;dsimp only[Gn];exact DP hq
  | cons x l ih=>
   intro hl Q' hq;rewrite[GY];refine yF (kW hlen _ (hl x Fi)) ?_;refine yF (if_neg EY) ?_;exact DM (DP (ih (fun y hy=>hl y (EM _ hy)) hq))
 refine DM (same _ (fun x hx=>List.mem_of_mem_drop (List.of_mem_zip hx).1) ?_);refine DM (DP ?_);simp only[Kd,ET,EJ,if_false];refine yF (pE hlen nd) ?_;exact DP h
theorem g7:∀ (l:List (DL × NameKind)) (n:Nat) (acc:List (DL × Addr)),(l.map (·.1)).Nodup->(acc.map (·.1)).Nodup->(∀ x∈l,x.1∉acc.map (·.1))->((cellsFrom n l acc).map (·.1)).Nodup
 | [],n,acc,_,h,_=>h
 | (x,k)::r,n,acc,h1,h2,h3=>by
  unfold cellsFrom;rw[Fq,FY]at h1;split
  ·refine g7 r (n+1) _ h1.2 ?_ ?_
   ·refine yF Fq ?_;rewrite[FY];exact⟨h3 _ Fi,h2⟩
   ·intro y hy q;rw[Fq]at q;cases q with
    | head=>exact h1.1 (Gg (f:=(·.1)) hy)
    | tail _ q=>exact h3 y (EM _ hy) q
  ·exact g7 r n acc h1.2 h2 fun y hy=>h3 y (EM _ hy)
theorem iw:∀ (l:List (DL × NameKind)) (n:Nat) (acc:List (DL × Addr)) (x:DL),((x,NameKind.cell)∈l\/∃ c,(x,c)∈acc)->∃ c,(x,c)∈cellsFrom n l acc
 | [],n,acc,x,h=>by
  rcases h with h | h
  ·cases h
  ·exact h
 | (y,k)::r,n,acc,x,h=>by
  unfold cellsFrom;split
  ·refine iw r (n+1) _ x ?_;rcases h with h | ⟨c,h⟩
   ·cases h with
    | head=>exact .inr ⟨n,Fi⟩
    | tail _ h=>exact .inl h
   ·exact .inr ⟨c,EM _ h⟩
  ·rename_i hk;refine iw r n acc x ?_;rcases h with h | h
   ·cases h with
    | head=>exact absurd rfl hk
    | tail _ h=>exact .inl h
   ·exact .inr h
theorem iz:∀ {l:List (DL × α)} {x:DL} {c:α},(l.map (·.1)).Nodup->(x,c)∈l->l.lookup x=DJ c:=by
 intro l;induction l with
 | nil=>intro x c _ m;cases m
 | cons p r ih=>
  intro x c h m;rw[Fq,FY]at h;cases p with | mk y b=>
  dsimp only[Fd];cases m with
  | head=>simp
  | tail _ m=>
   have:(x == y)=false:=by
    rewrite[beq_eq_false_iff_ne];rintro rfl;exact h.1 (Gg (f:=(·.1)) m)
   refine yF this ?_;exact ih h.2 m
theorem qu{k:DL->Option NameKind}:∀ {binds:List (DL × DW)} {m:DL->Option DW} {x:DL},(binds.map (·.1)).Nodup->k x=DJ .local->bindL k binds m x=(match binds.lookup x with | some v=>DJ v | none=>m x)
 | [],m,x,_,_=>rfl
 | (y,v)::r,m,x,h,hk=>by
  rw[Fq,FY]at h;unfold bindL;refine yF (qu h.2 hk) ?_;dsimp only[Fd];by_cases q:x=y
  ·subst q;have hn:r.lookup x=none:=by
    cases e:r.lookup x with
    | none=>rfl
    | some w=>exact absurd (Gg (f:=(·.1)) (mem_of_lookup e)) h.1
   simp[hn,hk]
  ·have:(x == y)=false:=by simpa using q
   refine yF this ?_;simp only;cases r.lookup x with
   | some w=>rfl
   | none=>simp only;split<;>simp[q]
theorem qv{k:DL->Option NameKind}:∀ {binds:List (DL × DW)} {m:DL->Option DW} {x:DL},(binds.map (·.1)).Nodup->k x≠DJ .local->bindC k binds m x=(match binds.lookup x with | some v=>DJ v | none=>m x)
 | [],m,x,_,_=>rfl
 | (y,v)::r,m,x,h,hk=>by
  rw[Fq,FY]at h;unfold bindC;refine yF (qv h.2 hk) ?_;dsimp only[Fd];by_cases q:x=y
  ·subst q;have hn:r.lookup x=none:=by
    cases e:r.lookup x with
    | none=>rfl
    | some w=>exact absurd (Gg (f:=(·.1)) (mem_of_lookup e)) h.1
   simp[hn,hk]
  ·have:(x == y)=false:=by simpa using q
   refine yF this ?_;simp only;cases r.lookup x with
   | some w=>rfl
   | none=>simp only;split<;>simp[q]
end Mine.Internal
end
section
open PySem PySem.W PyProof.Rows PySem.Calls
namespace Mine.Internal
structure BP(cx:Cx)(fa:Nat->Addr)(f:Nat)(fn:Fn)(name qual:DL)(args:List Arg)(dfl:List Expr)(body:List Stmt)(scope:Scope)(dV kV doc pm:DW)(an:Option Addr)(cdv ct oc:DW)(od:Option Addr)(osl:Array (Option DW))(fs:List DL):Prop where
 look:cx.K.lookup (fa f)=DJ ⟨oc,od,.func (fnOf name qual ⟨[],args,none,[],[],none,dfl⟩ body scope dV kV doc pm an cdv ct),osl⟩
 code:codeIn cx.K cdv qual=true
 seq:∃ r,∀ S,peek cx.K S (seqItems? dV)=DJ r
 co:scope.isCoroutine=false
 gen:scope.isGenerator=false
 kind:scope.kind= .function
 np:args.length=fn.np
 npl:fn.np<=fn.nl
 take:fs.take fn.np=args.map (·.arg)
 len:fs.length=fn.nl
 nodup:fs.Nodup
 kinds:∀ x∈fs,scope.names.lookup x=DJ .local\/scope.names.lookup x=DJ .cell
 nd:(scope.names.map (·.1)).Nodup
 nofree:∀ x,scope.names.lookup x≠DJ .free
 body:∀ (n W:Nat) (cl:aR),iq cx fa cl n->wH cx cl n W scope fs fn.body body
section
variable {cx:Cx} {fa:Nat->Addr} {P:Nat->Option Fn}
theorem qw(hC:f7 cx)
  (F:BP cx fa f fn name qual args dfl body scope dV kV doc pm an cdv ct oc od osl fs) {W n:Nat} {cl:aR} (hcl:iq cx fa cl n) {vs:List AV} {H:Hp} {fl:Fl} {m':aZ} {H':Hp} (hlen:vs.length=fn.np)
  (e:cF cl W fn.body (vs.map DJ++D0 (fn.nl - fn.np) none) H=DJ (fl,m',H')) {A:Around} {s:DQ} {J:Jm} {vals:List DW} {R:Result->DQ->Prop} (hA:zC A (n+1)) (I:cf cx J H s.heap) (r:cE J s.heap vs vals)
  (h:∀ val s',ak cx J s (match fl with | .ret v=>v | _=> .none) H' val s'->R (.ok (.ret val)) s'):codeAny cx.M A (.call (.ref (fa f)) ⟨vals,[]⟩) R s:=by
 have hroom:A.depth<recursionLimit:=by have:=hA.2.1;exact bS (nat_lit 13336370246920473745116608) tt this
 have X:=I.K hC;have hvl:=r.length;have han:(args.map (·.arg)).length=vals.length:=by (refine DK (DR _) ?_;refine DK F.np ?_;refine yF hvl ?_;refine yF hlen ?_;rfl)
 have hand:(args.map (·.arg)).Nodup:=by refine yB F.take ?_;exact F.nodup.sublist (List.take_sublist _ _)
 have hmap:((args.map (·.arg)).zip vals).map (·.1)=args.map (·.arg):=by
  rewrite[List.map_fst_zip];rfl;exact bu (nat_lit 336605216) tt han
 refine aq F.seq fun rr hr=>?_;refine codeAny_call_function hroom (X _ _ F.look) rfl F.co F.gen rfl (codeRec_of X F.code) (uI rfl han hand (Looks.of_peek X (hr _)) ?_);have argIn:∀ x∈args.map (·.arg),x∈fs:=fun x hx=>by rw[<- F.take]at hx;exact FC hx
 have ckeys:∀ k,((cellsFrom k scope.names []).map (·.1)).Nodup:=fun k=>g7 scope.names k [] F.nd Ip (fun x _ q=>by cases q);have cellAt:∀ k x,scope.names.lookup x=DJ .cell->∃ c,(cellsFrom k scope.names []).lookup x=DJ c:=fun k x hx=>by
  refine aq (iw scope.names k [] x (.inl (mem_of_lookup hx))) fun c hc=>?_;exact⟨c,iz (ckeys k) hc⟩
 refine wpAny_newFunctionEnv_cells F.kind (fun x hx=> ?_) fun env he s1 x=> ?_
 ·have hx1:x.1∈args.map (·.arg):=by refine yB hmap ?_;exact Gg hx
  rcases F.kinds x.1 (argIn _ hx1) with k | k
  ·exact .inl k
  ·refine aq (cellAt (s.heap.objs.size+1) x.1 k) fun c hc=>?_;exact .inr ⟨k,by refine yF hc ?_;rfl⟩
 subst he;refine⟨(hC.T.nolimit.keeps I.base).keeps x.toInCall.keep,codeAny_func ?_⟩;generalize hEnv:newEnv (fnOf name qual ⟨[],args,none,[],[],none,dfl⟩ body scope dV kV doc pm an cdv ct).scope s.heap.objs.size (fnOf name qual ⟨[],args,none,[],[],none,dfl⟩ body scope dV kV doc pm an cdv ct).globals (cellsFrom (s.heap.objs.size+1) (fnOf name qual ⟨[],args,none,[],[],none,dfl⟩ body scope dV kV doc pm an cdv ct).scope.names []) ((fnOf name qual ⟨[],args,none,[],[],none,dfl⟩ body scope dV kV doc pm an cdv ct).qualname++ ".<locals>.") (DJ (fa f)) (fnOf name qual ⟨[],args,none,[],[],none,dfl⟩ body scope dV kV doc pm an cdv ct).code none (fnOf name qual ⟨[],args,none,[],[],none,dfl⟩ body scope dV kV doc pm an cdv ct).builtins=env at *;have eS:env.scope=scope:=by refine yB hEnv ?_;rfl
 have eL:env.locals=s.heap.objs.size:=by refine yB hEnv ?_;rfl
 have eG:env.globals=mainGlobals:=by refine yB hEnv ?_;rfl
 have eB:env.builtins=builtinsNs:=by refine yB hEnv ?_;rfl
 have eC:env.cells=cellsFrom (s.heap.objs.size+1) scope.names []:=by refine yB hEnv ?_;rfl
 have eF:env.func≠none:=by refine yB hEnv ?_;exact Option.some_ne_none _
 obtain⟨⟨h1,tk1,sm1⟩,hns,hkeep,hfresh⟩:=x.toInCall;have S1:bV J J s.heap s1.heap bF:=bV.of_keeps hkeep;have I1:cf cx J H s1.heap:=I.keeps hkeep;have fresh:∀ a,s.heap.objs.size<=a->s.heap.get? a=none:=fun a ha=>by
  cases q:s.heap.get? a with
  | none=>rfl
  | some o=>exact absurd (FF q) (Fe.mpr ha)
 have cIs:∀ p∈env.cells,s1.heap.IsCell p.2 (bindC env.kindOf ((args.map (·.arg)).zip vals) (fun _=>none) p.1):=fun p hp=>by
  refine x.cell p.1 p.2 ?_;rw[eC]at hp ⊢;exact iz (ckeys _) hp
 have eaddr:∀ a,cD env a->s.heap.get? a=none:=fun a ea=>by
  rcases ea with ea | ⟨y,hy⟩
  ·exact fresh a (by (refine yF ea ?_;refine yF eL ?_);exact DV _)
  ·exact fresh a (EK (by have:=x.above y a hy;rw[eL]at this;exact this))
 have hnp:(fs.take fn.np).length=fn.np:=by (refine yF F.take ?_;refine DK (DR _) ?_;refine DK F.np ?_;rfl)
 have SC:eK cx env fs [] (vs.map DJ++D0 (fn.nl - fn.np) none) [] J H s1.heap:=by
  refine⟨⟨I1,by refine yF eS ?_;exact F.kind,eG,eB,fun a ea=>⟨fun q=>I.aliveJ q (eaddr a ea),?_,dQ I (eaddr a ea)⟩,fun i y v hy _ hm=> ?_,fun i y v hy _=>by simp at hy,rfl,fun y hy=> ?_⟩,⟨⟨_,hns⟩,fun _ p hp=>⟨_,cIs p hp⟩⟩⟩
  ·rcases ea with ea | ⟨y,hy⟩
   ·refine yF ea ?_;exact Ns.alive hns
   ·exact IsCell.alive (cIs _ hy)
  ·have hi:i<fn.np:=by
    rcases GM i fn.np with q | q
    ·exact q
    ·rw[D9 (by (refine yF (DR _) ?_;refine yF hlen ?_);exact q),G7]at hm;split at hm<;>cases hm
   rw[Eh (by (refine yF (DR _) ?_;refine yF hlen ?_);exact hi),DX]at hm;simp only[Eu,D7]at hm;refine af hm fun w hw z3=>?_;clear hm;subst z3;refine af (r.get hw) fun val hval rv=>?_;have hya:(args.map (·.arg))[i]? =DJ y:=by
    refine yB F.take ?_;refine DK (Gy hi) ?_;exact hy
   have hz:((args.map (·.arg)).zip vals).lookup y=DJ val:=by
    refine iz (by refine yF hmap ?_;exact hand) ?_;refine D8 (i:=i) ?_;rewrite[List.getElem?_zip_eq_some];exact⟨hya,hval⟩
   refine⟨val,rv.mono S1,?_⟩;rcases F.kinds y (D8 hy) with k | k
   ·have k':env.kindOf y=DJ .local:=by show env.scope.names.lookup y=_;refine yF eS ?_;exact k
    refine .inl ⟨k',_,hns,?_⟩;refine yF (qu (by refine yF hmap ?_;exact hand) k') ?_;refine yF hz ?_;rfl
   ·have k':env.kindOf y=DJ .cell:=by show env.scope.names.lookup y=_;refine yF eS ?_;exact k
    refine aq (cellAt (s.heap.objs.size+1) y k) fun c hc=>?_;rw[<- eC]at hc;refine .inr ⟨.inl k',c,hc,?_⟩;have:=cIs _ (mem_of_lookup hc);rw[qv (by refine yF hmap ?_;exact hand) (by refine yF k' ?_;decide),hz]at this;exact this
  ·have hk:scope.names.lookup y=DJ .cell:=by
    rcases hy with q | q
    ·have:env.scope.names.lookup y=DJ .cell:=q;rwa [eS]at this
    ·have:env.scope.names.lookup y=DJ .free:=q;rw[eS]at this;exact absurd this (F.nofree y)
   refine aq (cellAt (s.heap.objs.size+1) y hk) fun c hc=>?_;rw[<- eC]at hc;exact⟨c,hc⟩
 have SO:dG env fs:=by
  refine⟨by refine yF eS ?_;exact F.kind,fun p hp q=> ?_,fun y hy=> ?_,F.nodup⟩
  ·have:=x.above p.1 p.2 hp;rw[q]at this;exact absurd this (Gc _)
  ·rcases F.kinds y hy with k | k
   ·exact .inl (by show env.scope.names.lookup y=_;refine yF eS ?_;exact k)
   ·refine aq (cellAt (s.heap.objs.size+1) y k) fun c hc=>?_;rw[<- eC]at hc;exact .inr ⟨by show env.scope.names.lookup y=_;refine yF eS ?_;exact k,⟨c,hc⟩,eF,x.apart⟩
 have hAO:kl (A.deeper env) n:=⟨hA.1,by show A.depth+1+_+_<_;have:=hA.2.1;exact bS (nat_lit 482217924599815006078848834461884645166528) tt this,by show A.units+3+_+_<_;have:=hA.2.2;exact bS (nat_lit 505642803981455900983699936427729437255639123392) tt this⟩;refine F.body n W cl hcl env (A.deeper env) s1 J H _ fl m' H' _ _ eS hAO SO SC e fun fr s' p=> ?_;refine am p fun sm2 z16=>?_;clear p;refine aM z16 fun J2 S2 X2 fr2=>?_;clear z16;have Sall:bV J J2 s.heap s'.heap bF:=⟨S2.pre,fun a ha=>(S2.new a ha).imp_right (lU S1),fun b o eb hJ _=>S2.keep b o (hkeep b o eb) hJ (fun w=>by rw[eaddr b w]at eb;cases eb),fun b its q eb=>S2.tup b its q (hkeep b _ eb),fun b eb=>S2.alive b (S1.alive b eb)⟩;refine h _ _ ⟨ae ⟨h1,tk1,sm1⟩ sm2,J2,Sall,X2.ctx.inv,?_⟩;cases fl with
 | next=>cases fr2;exact rfl
 | cont=>cases fr2;exact rfl
 | ret v=>(refine af fr2 fun val z2 q=>?_;clear fr2;subst z2);exact q
noncomputable def zZ(cx:Cx)(fa:Nat->Addr)(f:Nat)(fn:Fn):Prop:=∃ (name qual:DL) (args:List Arg) (dfl:List Expr) (body:List Stmt) (scope:Scope) (dV kV doc pm:DW) (an:Option Addr) (cdv ct oc:DW) (od:Option Addr) (osl:Array (Option DW)) (fs:List DL),
 BP cx fa f fn name qual args dfl body scope dV kV doc pm an cdv ct oc od osl fs
theorem uJ(hC:f7 cx)(hP:∀ f fn,P f=DJ fn->zZ cx fa f fn)(W:Nat):∀ n,iq cx fa (ad P W n) n
 | 0=>by intro f vs H v H' e;exact nO e
 | n+1=>by
  intro f vs H v H' e A s J vals R hA I r h;refine vQ e ?_ ?_
  ·intro fn v2 m2 H2 hf hlen eb e;refine eT (hP f fn hf) fun uu uu uu uu z16=>?_;refine eT z16 fun uu uu uu uu z86=>?_;clear z16;refine eT z86 fun uu uu uu uu z156=>?_;clear z86;refine eT z156 fun uu uu uu uu z226=>?_;clear z156;refine aq z226 fun uu F=>?_;clear z226;revert h;refine jP e ?_;intro h;exact qw hC F (uJ hC hP W n) hlen eb hA I r h
  ·intro fn fl m2 H2 hf hlen eb hnr e;refine eT (hP f fn hf) fun uu uu uu uu z16=>?_;refine eT z16 fun uu uu uu uu z86=>?_;clear z16;refine eT z86 fun uu uu uu uu z156=>?_;clear z86;refine eT z156 fun uu uu uu uu z226=>?_;clear z156;refine aq z226 fun uu F=>?_;clear z226;revert h;refine jP e ?_;intro h;refine qw hC F (uJ hC hP W n) hlen eb hA I r fun val s' p=>h val s' ?_;cases fl with
   | next=>exact p
   | cont=>exact p
   | ret w=>exact (hnr w rfl).elim
end
end Mine.Internal
end
section
open PySem
namespace Mine.Internal
noncomputable def rU:List (DL × Nat):=[(DN "is_state_kind",1),(DN "state_cells",9),(DN "drivers",10),(DN "ordered_cells",11),(DN "comb_order",12),(DN "row_number",13),(DN "full_table",14),(DN "var_table",15),(DN "cofactor",16),(DN "depends",17),(DN "support",18),(DN "spread",19),(DN "shrink",20),(DN "final_net",21),(DN "rebuilt_cells",22),(DN "rebuilt",23),(DN "and_form",24),(DN "or_form",25),(DN "xor_form",26),(DN "turned_form",27),(DN "gate_form",28),(DN "select_form",29),(DN "table_bit",30),(DN "table_over",31),(DN "table_form",32),(DN "are_opposite",33),(DN "library_form",34),(DN "simple_form",35),(DN "fold_constants",36),(DN "drop_buffers",37),(DN "used_cells",38),(DN "drop_unused",39),(DN "_law_pick",40),(DN "_law_table",41),(DN "_law_near",42),(DN "_law_netlist",43),(DN "_law_states",44),(DN "_law_patterns",45),(DN "_law_word",46),(DN "_law_words",47),(DN "_law_sinks",48),(DN "_law_kept",49),(DN "_law_foldable",50),(DN "_law_used",51),(DN "law",52)]
noncomputable def je:List (DL × Nat):=[("new_net",2),("new_nets",3),("add_input",4),("add_output",5),("add_cell",6),("drive",7),("sources",8)]
noncomputable def lW:List (DL × Int):=[("CONST0",0),("CONST1",1)]
noncomputable def m7:List (DL × DW):=[("len",.builtin "len"),("list",.type "list"),("tuple",.type "tuple"),("sum",.builtin "sum"),("min",.builtin "min"),("str",.type "str"),("set",.type "set"),("range",.type "range")]
noncomputable def AW:List (List DL):=
 ["self","name"]::
 ["kind"]::
 ["self","net"]::
 ["self","width"]::
 ["self","name","width","nets"]::
 ["self","name","nets"]::
 ["self","kind","ins","param","out"]::
 ["self","out","kind","ins","param"]::
 ["self","nets","name","bits","cell"]::
 ["netlist","found","index"]::
 ["netlist","taken","name","bits","net","found","index"]::
 ["netlist","driven","cells","waiting","users","ready","index","count","net","before","turn"]::
 ["netlist","order"]::
 ["bits","row","place"]::
 ["k"]::
 ["i","k","full"]::
 ["t","i","bit","k","high","low"]::
 ["t","i","k"]::
 ["t","k","found","i"]::
 ["m","places","row","j"]::
 ["t","k","kept","result","m"]::
 ["replaced","net"]::
 ["netlist","cells","replaced","result","name","nets","kind","out","ins","param"]::
 ["netlist","replaced"]::
 ["a","b","opposite"]::
 ["a","b","opposite"]::
 ["a","b","opposite"]::
 ["form","kind","ins"]::
 ["kind","a","b","opposite"]::
 ["s","a","b"]::
 ["net","kept","row"]::
 ["table","ins","kept","small","row","bits"]::
 ["table","ins","kept","net","small","places","nets"]::
 ["inverse","a","b"]::
 ["ins","param","kind","nets","table"]::
 ["cell","ins","inverse","kind","param"]::
 ["netlist","cells","replaced","inverse","index","cell","out","ins","kind","param"]::
 ["netlist","replaced","inverted","index","kind","out","ins","param","net"]::
 ["netlist","driven","used","pending","name","nets","index"]::
 ["netlist","used","cells","index"]::
 ["hand","limit","number","digit"]::
 ["kind","param"]::
 ["hand","pool"]::
 ["hand","most","holds","kinds","net","pool","outs","_","kind","wide","param","turn","edge","init","first","ins"]::
 ["net"]::
 ["net","keys","rows","patterns","turn"]::
 ["table","words","full","total","row","part","turn"]::
 ["net","patterns","full","words","name","nets","step","cell","left","_","again"]::
 ["net","patterns","full","words","ports","states","cell"]::
 ["old","new","patterns","full","ports","states","told","left"]::
 ["cell","kind","out","ins","param"]::
 ["net","wanted","_","cell"]::
 ["script","cells","hand","net","held","patterns","full","bent","direct","used","made","names","last"]::[]
noncomputable def names(n:Nat):List DL:=AW.getD n []
end Mine.Internal
end
section
open PySem PySem.W PyProof.Rows PySem.Calls
namespace Mine.Internal
theorem iA{a b:Bool}(h:(a&&b)=true):a=true/\b=true:=GD.mp h
noncomputable def gl(sc:Scope)(id:DL):Bool:=sc.names.lookup id == DJ .globalImplicit&& !(id == ("__debug__" :DL))
noncomputable def nu(id:DL):Bool:= !(id == ("__debug__" :DL))&& !(id == ("__classdict__" :DL))
theorem ig{sc:Scope}{id:DL}(h:gl sc id=true):sc.names.lookup id=DJ .globalImplicit/\(id == ("__debug__" :DL))=false:=⟨eq_of_beq (iA h).1,(FH _).mp (iA h).2⟩
theorem g8{id:DL}(h:nu id=true):(id == ("__debug__" :DL))=false/\(id == ("__classdict__" :DL))=false:=⟨(FH _).mp (iA h).1,(FH _).mp (iA h).2⟩
noncomputable def fR(e:Expr):Bool:= !Nat.beq e.ctorIdx 5
noncomputable def CU:Expr->Option DL
 | .Name x _=>DJ x
 | _=>none
noncomputable def yx:Expr->List DL
 | .Tuple ts _ _=>ts.filterMap CU
 | x=>(CU x).toList
noncomputable def nv(gens:List Comprehension):List DL:=gens.flatMap fun g=>yx g.target
noncomputable def kX(scope sc:Scope)(ns:List DL):Bool:=
 scope.kind == .function&&sc.kind == .function&&scope.names.all (fun x=>x.2 != .cell)&&scope.names.all (fun x=>x.2 != .local || scope.names.lookup x.1 == DJ .local)
  &&scope.names.all (fun x=>x.2 != .free || sc.names.lookup x.1 == DJ .cell || sc.names.lookup x.1 == DJ .free)&&ns.all (fun x=>scope.names.lookup x == DJ .local)&&decide ns.Nodup&& !ns.isEmpty
theorem rV(h:kX scope sc ns=true):gy scope sc ns:=by
 unfold kX at h;simp only[Eb,beq_iff_eq,Fc,E4,bne_iff_ne,ne_eq,decide_eq_true_eq,FH]at h;refine am h fun z1 h8=>?_;clear h;refine am z1 fun z61 h7=>?_;clear z1;refine am z61 fun z121 h6=>?_;clear z61;refine am z121 fun z181 h5=>?_;clear z121;refine am z181 fun z241 h4=>?_;clear z181;refine am z241 fun z301 h3=>?_;clear z241;refine am z301 fun h1 h2=>?_;clear z301;refine⟨h1,h2,h3,fun x hx e=> ?_,fun x hx e=> ?_,h6,h7,fun e=>by rw[e]at h8;exact tF h8⟩
 ·exact (h4 x hx).resolve_left fun q=>q e
 ·exact (h5 x hx).elim (fun q=> .inl (q.resolve_left fun q=>q e)) .inr
noncomputable def inv{α β:Type}[BEq β][LawfulBEq β](f:α->β)(b:β):List α->Option {a:α // f a=b}
 | []=>none
 | a::l=>if h:(f a == b)=true then DJ ⟨a,eq_of_beq h⟩ else inv f b l
noncomputable def look{α:Type}(o:Option α):Option {a:α // o=DJ a}:=match o with
 | some a=>DJ ⟨a,rfl⟩
 | none=>none
noncomputable def gv(b:Bool):Option (PLift (b=true)):=if h:b=true then DJ ⟨h⟩ else none
noncomputable def ix(l:List DL)(x:DL):Nat:=l.findIdx (· == x)
noncomputable def at?(l:List DL)(x:DL):Option {i:Nat // l[i]? =DJ x}:=if h:(l[ix l x]? == DJ x)=true then DJ ⟨ix l x,eq_of_beq h⟩ else none
noncomputable def BQ(l:List DL)(x:Expr):rW:=match CU x with
 | some id=> .one (ix l id)
 | none=> .many ((yx x).map (ix l))
noncomputable def Cd(l:List DL)(x:Expr):Option {t:rW // ew l t x=true}:=(gv (ew l (BQ l x) x)).bind fun h=>DJ ⟨BQ l x,h.1⟩
section
variable (sc:Scope) (fs cs:List DL)
noncomputable def All(p:Cx->aR->Nat->Prop):Prop:=∀ (cx:Cx) (fa:Nat->Addr) (cl:aR) (n:Nat),tq cx fa rU je lW m7->iq cx fa cl n->p cx cl n
noncomputable def GE(e:E)(x:Expr):Prop:=All fun cx cl n=>SE cx cl n sc fs cs e x/\(fR x=true->ST cx cl n sc fs cs e x)
noncomputable def RE(x:Expr):Type:=Option {e:E // GE sc fs cs e x}
noncomputable def GL(es:List E)(xs:List Expr):Prop:=All fun cx cl n=>(xs.all cm=true->SL cx cl n sc fs cs es xs)/\(xs.all fR=true->SB cx cl n sc fs cs es xs)
noncomputable def GP(es:List E)(ks:List (Option Expr))(xs:List Expr):Prop:=All fun cx cl n=>SP cx cl n sc fs cs es ks xs
noncomputable def GI(r:Bool × E)(x:Expr):Prop:=All fun cx cl n=>SI cx cl n sc fs cs r.1 r.2 x
noncomputable def GG(elt:Expr)(rest:List Comprehension)(ifs:List Expr)(g:G):Prop:=∀ gens scope pos d,rest=gens.drop d->All fun cx cl n=>SG cx cl n sc fs cs (.ListComp elt gens scope pos) elt gens d g ifs
structure CP where
 k:Nat
 t:rW
 rng:Bool
 it:E
 g:G
noncomputable def GC(c:CP)(elt:Expr)(gens:List Comprehension)(scope:Scope)(pos:Pos):Prop:=∃ target iter ifs rest ns,gens=⟨target,iter,ifs,0⟩::rest/\gy scope sc ns/\c.k=ns.length/\ew ns c.t target=true/\iu iter=true/\GI sc fs cs (c.rng,c.it) iter/\
 All fun cx cl n=>SG cx cl n (ez scope sc) fs ns (.ListComp elt (⟨target,iter,ifs,0⟩::rest) scope pos) elt (⟨target,iter,ifs,0⟩::rest) 1 c.g ifs
end
section
variable {sc:Scope} {fs cs:List DL}
theorem GE.of(ht:∀ env whole,isTrue x env whole=(do let v <- whole;standAt x.pos;holding [v] (Ht v)))(h:∀ (cx:Cx) (fa:Nat->Addr) (cl:aR) (n:Nat),tq cx fa rU je lW m7->iq cx fa cl n->SE cx cl n sc fs cs e x):GE sc fs cs e x:=
 fun cx fa cl n F hc=>⟨h cx fa cl n F hc,fun _=>ST.of (h cx fa cl n F hc) ht⟩
theorem GL.cons(h:GE sc fs cs e x)(k:GL sc fs cs es xs):GL sc fs cs (e::es) (x::xs):=fun cx fa cl n F hc=>
 ⟨fun q=>SL.cons (h cx fa cl n F hc).1 ((k cx fa cl n F hc).1 (iA q).2) (iA q).1,fun q=> .cons (h cx fa cl n F hc).1 ((h cx fa cl n F hc).2 (iA q).1) ((k cx fa cl n F hc).2 (iA q).2)⟩
theorem SE.bin'(h:kR o=op)(ha:SE cx cl n sc fs cs a xa)(hb:SE cx cl n sc fs cs b xb):SE cx cl n sc fs cs (.bin o a b) (.BinOp xa op xb pos):=by
 subst h;exact SE.bin ha hb
theorem yy(h:wM o=op)(ha:GE sc fs cs a xa)(hb:GE sc fs cs b xb)(hm:behindInMarks (wM o) xb=false):GE sc fs cs (.cmp o a b) (.Compare xa [op] [xb] pos):=by
 subst h;exact fun cx fa cl n F hc=>⟨SE.cmp (ha cx fa cl n F hc).1 (hb cx fa cl n F hc).1 hm,fun _=>ST.cmp (ha cx fa cl n F hc).1 (hb cx fa cl n F hc).1 hm⟩
noncomputable def z0(f:∀ x,RE sc fs cs x):∀ xs:List Expr,Option {es:List E // GL sc fs cs es xs}
 | []=>DJ ⟨[],fun _ _ _ _ _ _=>⟨fun _=>SL.nil,fun _=> .nil⟩⟩
 | x::xs=>El (f x) fun e=>(z0 f xs).bind fun es=>DJ ⟨e.1::es.1,GL.cons e.2 es.2⟩
noncomputable def C7(f:∀ x,RE sc fs cs x):∀ (ks:List (Option Expr)) (xs:List Expr),Option {es:List E // GP sc fs cs es ks xs}
 | [],xs=>match xs with
  | []=>DJ ⟨[],fun _ _ _ _ _ _=>SP.nil⟩
  | _::_=>none
 | k::ks,xs=>match k with
  | none=>none
  | some k=>match xs with
   | []=>none
   | x::xs=>El (f k) fun a=>El (f x) fun b=>(C7 f ks xs).bind fun es=>DJ ⟨a.1::b.1::es.1,fun cx fa cl n F hc=>SP.cons (a.2 cx fa cl n F hc).1 (b.2 cx fa cl n F hc).1 (es.2 cx fa cl n F hc)⟩
noncomputable def AX(sc:Scope)(fs cs:List DL)(x:Expr):Option {y:Expr // ∀ e,GE sc fs cs e y->GI sc fs cs (true,e) x}:=match x with
 | .Call g xs kws pos=>match g with
  | .Name id p=>match xs with
   | [y]=>match kws with
    | []=>(gv (gl sc id)).bind fun h=>(gv (m7.lookup id == DJ (.type "range"))).bind fun k=>(gv (cm y)).bind fun l=>DJ ⟨y,fun _ he cx fa cl n F hc=>SI.range F.ok (ig h.1).1 (ig h.1).2 (F.bis _ _ (eq_of_beq k.1)) (he cx fa cl n F hc).1 l.1⟩
    | _=>none
   | _=>none
  | _=>none
 | _=>none
noncomputable def CV(f:∀ x,RE sc fs cs x)(x:Expr):Option {r:Bool × E // GI sc fs cs r x}:=match AX sc fs cs x with
 | some y=>El (f y.1) fun e=>DJ ⟨(true,e.1),y.2 _ e.2⟩
 | none=>El (f x) fun e=>DJ ⟨(false,e.1),fun cx fa cl n F hc=>SI.plain (e.2 cx fa cl n F hc).1⟩
noncomputable def yz(f:∀ x,RE sc fs cs x){elt:Expr}{rest:List Comprehension}(b:Option {g:G // GG sc fs cs elt rest [] g}):∀ ifs:List Expr,Option {g:G // GG sc fs cs elt rest ifs g}
 | []=>b
 | i::ifs=>(gv (fR i)).bind fun h=>El (f i) fun e=>(yz f b ifs).bind fun g=>DJ ⟨.if_ e.1 g.1,fun gens scope pos d hr cx fa cl n F hc=>SG.if_ ((e.2 cx fa cl n F hc).2 h.1) (g.2 gens scope pos d hr cx fa cl n F hc)⟩
noncomputable def C8(f:∀ x,RE sc fs cs x)(elt:Expr):∀ (rest:List Comprehension) (ifs:List Expr),Option {g:G // GG sc fs cs elt rest ifs g}
 | [],ifs=>yz f (El (f elt) fun e=>DJ ⟨.elt e.1,fun gens _ _ d hr cx fa cl n F hc=>SG.elt (e.2 cx fa cl n F hc).1 (EN (List.drop_eq_nil_iff.mp hr.symm))⟩) ifs
 | ⟨target,iter,ifs',asy⟩::rest,ifs=>yz f ((gv (asy == 0)).bind fun a=>(Cd cs target).bind fun t=>(gv (iu iter)).bind fun s=>(CV f iter).bind fun r=>(C8 f elt rest ifs').bind fun g=>DJ ⟨.for_ t.1 r.1.1 r.1.2 g.1,fun gens scope pos d hr cx fa cl n F hc=>by
   have ha:=eq_of_beq a.1;subst ha;exact SG.for_ (by (refine yB List.head?_drop ?_;refine yB hr ?_);rfl) t.2 s.1 (r.2 cx fa cl n F hc) (g.2 gens scope pos (d+1) (by (refine DK ?_ List.tail_drop;refine yB hr ?_);rfl) cx fa cl n F hc)⟩) ifs
noncomputable def C9(fo:∀ x,RE sc fs cs x)(f:∀ sc cs x,RE sc fs cs x)(elt:Expr)(gens:List Comprehension)(scope:Scope)(pos:Pos):Option {c:CP // GC sc fs cs c elt gens scope pos}:=match gens with
 | []=>none
 | ⟨target,iter,ifs,asy⟩::rest=>(gv (asy == 0)).bind fun a=>(gv (kX scope sc (nv (⟨target,iter,ifs,asy⟩::rest)))).bind fun h=>(Cd (nv (⟨target,iter,ifs,asy⟩::rest)) target).bind fun t=>(gv (iu iter)).bind fun s=>(CV fo iter).bind fun r=>
  (C8 (f (ez scope sc) (nv (⟨target,iter,ifs,asy⟩::rest))) elt rest ifs).bind fun g=>DJ ⟨⟨(nv (⟨target,iter,ifs,asy⟩::rest)).length,t.1,r.1.1,r.1.2,g.1⟩,target,iter,ifs,rest,_,by (refine yF (eq_of_beq a.1) ?_;rfl),rV h.1,rfl,t.2,s.1,r.2,fun cx fa cl n F hc=>g.2 _ scope pos 1 rfl cx fa cl n F hc⟩
theorem GC.ge{c:CP}{elt:Expr}{gens:List Comprehension}{scope:Scope}{pos:Pos}(h:GC sc fs cs c elt gens scope pos):GE sc fs cs (.comp c.k c.t c.rng c.it c.g) (.ListComp elt gens scope pos):=by
 refine eT h fun target iter ifs rest z16=>?_;clear h;refine yJ z16 fun ns z72 h1 h2 h3 h4 h5 h6=>?_;clear z16;subst z72;exact GE.of (fun _ _=>rfl) fun cx fa cl n F hc=>SE.comp h1 h2 h3 h4 (h5 cx fa cl n F hc) (h6 cx fa cl n F hc)
end
section
variable (sc:Scope) (fs cs:List DL)
noncomputable def AY(id:DL)(p:Pos):RE sc fs cs (.Name id p):=
 if h:gl sc id=true then (look (lW.lookup id)).bind fun i=>DJ ⟨.const (.int i.1),GE.of (fun _ _=>rfl) fun cx _ cl n F _=>(F.nums _ _ i.2).elim fun t ht=>SE.gInt F.ok (ig h).1 ht (ig h).2⟩
 else (gv (nu id)).bind fun h=>match at? (if (false || cs.isEmpty)=true then fs else cs) id with
  | some i=>DJ ⟨.loc i.1,GE.of (fun _ _=>rfl) fun _ _ _ _ _ _=>SE.var (fr:=false) i.2 (g8 h.1).1 (g8 h.1).2 (fun z=>by exact fT z)⟩
  | none=>(at? fs id).bind fun i=>(gv (sc.names.lookup id == DJ .cell || sc.names.lookup id == DJ .free)).bind fun k=>DJ ⟨.free i.1,GE.of (fun _ _=>rfl) fun _ _ _ _ _ _=>SE.var (fr:=true) i.2 (g8 h.1).1 (g8 h.1).2 fun _=>((E4 _ _).mp k.1).imp eq_of_beq eq_of_beq⟩
noncomputable def z7:Const->AV
 | .bool b=> .bool b
 | .int i=> .int i
 | .str s=> .str s.cps.toList
 | _=> .none
noncomputable def Da:List Op:=[.add,.sub,.mul,.fdiv,.mod,.pow,.shl,.shr,.band,.bor,.bxor ()]
noncomputable def bis(n:Nat):List BI:=if n == 2 then [.min2] else [.len,.list,.tuple,.sum,.min1,.str]
noncomputable def AZ(f:∀ x,RE sc fs cs x)(id:DL)(p:Pos)(xs:List Expr)(pos:Pos):RE sc fs cs (.Call (.Name id p) xs [] pos):=
 (gv (gl sc id)).bind fun h=>(gv (xs.all cm)).bind fun hs=>match look (rU.lookup id) with
  | some q=>(z0 f xs).bind fun es=>DJ ⟨.call q.1 es.1,GE.of (fun _ _=>rfl) fun cx fa cl n F hc=>SE.call F.ok hc (ig h.1).1 (ig h.1).2 (F.fns _ _ q.2) ((es.2 cx fa cl n F hc).1 hs.1) hs.1⟩
  | none=>if hN:(id == ("Netlist" :DL))=true then (z0 f xs).bind fun es=>DJ ⟨.new es.1,GE.of (fun _ _=>rfl) fun cx fa cl n F hc=>by
     have hN:=eq_of_beq hN;subst hN;exact SE.new F.ok hc (ig h.1).1 (ig h.1).2 F.net F.makes F.init ((es.2 cx fa cl n F hc).1 hs.1) hs.1⟩
   else (look (m7.lookup id)).bind fun v=>(inv vt (DJ v.1) (bis xs.length)).bind fun b=>(z0 f xs).bind fun es=>DJ ⟨.bi b.1 es.1,GE.of (fun _ _=>rfl) fun cx fa cl n F hc=>SE.bi F.ok b.2 (ig h.1).1 (ig h.1).2 (F.bis _ _ v.2) ((es.2 cx fa cl n F hc).1 hs.1) hs.1⟩
noncomputable def BR(f:∀ x,RE sc fs cs x)(id:DL)(p:Pos)(xs:List Expr)(pos:Pos):RE sc fs cs (.Call (.Name id p) xs [] pos):=match xs with
 | [x]=>match x with
  | .Call g ys kws pos2=>match g with
   | .Name id2 p2=>match ys with
    | [y]=>match kws with
     | []=>(gv (gl sc id)).bind fun h=>(gv (m7.lookup id == DJ (.builtin "len"))).bind fun h1=>(gv (gl sc id2)).bind fun h2=>(gv (m7.lookup id2 == DJ (.type "set"))).bind fun h3=>(gv (cm y)).bind fun h4=>El (f y) fun e=>DJ ⟨.bi (.lenset ()) [e.1],GE.of (fun _ _=>rfl) fun cx fa cl n F hc=>
       SE.lenset F.ok (ig h.1).1 (ig h.1).2 (F.bis _ _ (eq_of_beq h1.1)) (ig h2.1).1 (ig h2.1).2 (F.bis _ _ (eq_of_beq h3.1)) (e.2 cx fa cl n F hc).1 h4.1⟩
     | _=>none
    | _=>none
   | _=>none
  | _=>none
 | _=>none
noncomputable def A9(f:∀ x,RE sc fs cs x)(o:Expr)(name:DL)(ap:Pos)(xs:List Expr)(pos:Pos):RE sc fs cs (.Call (.Attribute o name ap) xs [] pos):=
 (gv (fG o)).bind fun h1=>(gv (xs.all cm)).bind fun h2=>(gv (decide (xs.length<20))).bind fun h3=>(gv (ap.endLine == pos.line)).bind fun h4=>El (f o) fun e=>(z0 f xs).bind fun es=>match look (je.lookup name) with
  | some q=>DJ ⟨.meth e.1 q.1 es.1,GE.of (fun _ _=>rfl) fun cx fa cl n F hc=>SE.meth F.ok F.cls hc h1.1 h2.1 (of_decide_eq_true h3.1) h4.1 (F.meths _ _ q.2) (e.2 cx fa cl n F hc).1 ((es.2 cx fa cl n F hc).1 h2.1)⟩
  | none=>(inv rQ name.cps.toList [.append,.extend,.pop,.index (),.get]).bind fun b=>DJ ⟨.bm b.1 e.1 es.1,GE.of (fun _ _=>rfl) fun cx fa cl n F hc=>SE.bm b.2.symm h1.1 h2.1 (of_decide_eq_true h3.1) h4.1 (e.2 cx fa cl n F hc).1 ((es.2 cx fa cl n F hc).1 h2.1)⟩
noncomputable def BT(f:∀ x,RE sc fs cs x)(o i:Expr)(p:Pos):RE sc fs cs (.Subscript o i p):=
 if h:iO i=true then El (f o) fun a=>El (f i) fun b=>DJ ⟨.sub a.1 b.1,GE.of (fun _ _=>rfl) fun cx fa cl n F hc=>SE.sub (a.2 cx fa cl n F hc).1 (b.2 cx fa cl n F hc).1 h⟩
 else match o with
  | .Name y q=>match i with
   | .Slice none (DJ (.Constant (.int k) _ _)) none _=>if hk:k=((k.toNat:Nat):Int) then El (f (.Name y q)) fun a=>DJ ⟨.slice a.1 k.toNat,GE.of (fun _ _=>rfl) fun cx fa cl n F hc=>by refine yF hk ?_;exact SE.slice (a.2 cx fa cl n F hc).1⟩ else none
   | _=>none
  | _=>none
noncomputable def BU(g:∀ sc cs x,RE sc fs cs x)(x:Expr):RE sc fs cs x:=match x with
 | .Constant k j p=>(gv (vr (z7 k) k)).bind fun h=>DJ ⟨.const (z7 k),GE.of (fun _ _=>rfl) fun _ _ _ _ _ _=>SE.const h.1⟩
 | .Name id p=>AY sc fs cs id p
 | .BinOp a o b p=>(inv kR o Da).bind fun q=>El (g sc cs a) fun x=>El (g sc cs b) fun y=>DJ ⟨.bin q.1 x.1 y.1,GE.of (fun _ _=>rfl) fun cx fa cl n F hc=>SE.bin' q.2 (x.2 cx fa cl n F hc).1 (y.2 cx fa cl n F hc).1⟩
 | .UnaryOp o a p=>match o with
  | .USub=>El (g sc cs a) fun x=>DJ ⟨.neg x.1,GE.of (fun _ _=>rfl) fun cx fa cl n F hc=>SE.neg (x.2 cx fa cl n F hc).1⟩
  | .Not=>(gv (fR a)).bind fun h=>El (g sc cs a) fun x=>DJ ⟨.not x.1,fun cx fa cl n F hc=>⟨SE.not (x.2 cx fa cl n F hc).1,fun _=>ST.not ((x.2 cx fa cl n F hc).2 h.1)⟩⟩
  | _=>none
 | .BoolOp o xs p=>(inv (fun k=>tv k o) true [true,false]).bind fun k=>(gv (xs.all fR)).bind fun h=>(z0 (g sc cs) xs).bind fun es=>DJ ⟨.bop k.1 es.1,fun cx fa cl n F hc=>⟨SE.bop k.2 ((es.2 cx fa cl n F hc).2 h.1),fun _=>ST.bop k.2 ((es.2 cx fa cl n F hc).2 h.1)⟩⟩
 | .Compare a os bs p=>match os with
  | [o]=>match bs with
   | [b]=>(inv wM o [.eq,.ne,.lt,.gt (),.ge,.in_,.notIn]).bind fun q=>(gv (!behindInMarks (wM q.1) b)).bind fun h=>El (g sc cs a) fun x=>El (g sc cs b) fun y=>DJ ⟨.cmp q.1 x.1 y.1,yy q.2 x.2 y.2 ((FH _).mp h.1)⟩
   | _=>none
  | _=>none
 | .IfExp t a b p=>(gv (fR t)).bind fun h=>El (g sc cs t) fun z=>El (g sc cs a) fun x=>El (g sc cs b) fun y=>DJ ⟨.ite z.1 x.1 y.1,fun cx fa cl n F hc=>⟨SE.ite ((z.2 cx fa cl n F hc).2 h.1) (x.2 cx fa cl n F hc).1 (y.2 cx fa cl n F hc).1,fun z=>Ev z⟩⟩
 | .Tuple xs k p=>(gv (xs.all cm)).bind fun h=>(z0 (g sc cs) xs).bind fun es=>(gv (decide (es.1.length<=100))).bind fun z=>DJ ⟨.tup es.1,GE.of (fun _ _=>rfl) fun cx fa cl n F hc=>SE.tup ((es.2 cx fa cl n F hc).1 h.1) (of_decide_eq_true z.1)⟩
 | .List xs p=>(gv (xs.all cm)).bind fun h=>(z0 (g sc cs) xs).bind fun es=>(gv (decide (es.1.length<=100))).bind fun z=>DJ ⟨.list es.1,GE.of (fun _ _=>rfl) fun cx fa cl n F hc=>SE.list ((es.2 cx fa cl n F hc).1 h.1) (of_decide_eq_true z.1)⟩
 | .Dict ks xs p=>match ks with
  | []=>match xs with
   | []=>DJ ⟨.dict [],GE.of (fun _ _=>rfl) fun _ _ _ _ _ _=>SE.dict0⟩
   | _=>none
  | k::ks=>(gv ((k::ks).all (·.isSome))).bind fun h=>(gv ((k::ks).length == xs.length)).bind fun h1=>(gv (decide ((k::ks).length<=15))).bind fun h2=>(C7 (g sc cs) (k::ks) xs).bind fun es=>(gv (decide (es.1.length<=100))).bind fun z=>
   DJ ⟨.dict es.1,GE.of (fun _ _=>rfl) fun cx fa cl n F hc=>SE.dict (es.2 cx fa cl n F hc) h.1 (eq_of_beq h1.1) (GR _ _) (of_decide_eq_true h2.1) (of_decide_eq_true z.1)⟩
 | .Attribute o nm p=>(gv (fG o)).bind fun h=>El (g sc cs o) fun x=>DJ ⟨.attr x.1 nm.cps.toList,GE.of (fun _ _=>rfl) fun cx fa cl n F hc=>SE.attr F.ok F.cls (x.2 cx fa cl n F hc).1 (decide_eq_true rfl) h.1⟩
 | .Subscript o i p=>BT sc fs cs (g sc cs) o i p
 | .Call h xs kws p=>match kws with
  | []=>match h with
   | .Name id q=>(BR sc fs cs (g sc cs) id q xs p).orElse fun _=>AZ sc fs cs (g sc cs) id q xs p
   | .Attribute o nm ap=>A9 sc fs cs (g sc cs) o nm ap xs p
   | _=>none
  | _=>none
 | .ListComp elt gens scope p=>(C9 (g sc cs) g elt gens scope p).bind fun c=>DJ ⟨.comp c.1.k c.1.t c.1.rng c.1.it c.1.g,c.2.ge⟩
 | _=>none
end
noncomputable def tK(fs:List DL):Nat->∀ sc cs x,RE sc fs cs x
 | 0,_,_,_=>none
 | k+1,sc,cs,x=>BU sc fs cs (tK fs k) x
end Mine.Internal
end
section
open PySem PySem.W PyProof.Rows PySem.Calls
namespace Mine.Internal
noncomputable def z8(sc:Scope)(scope:Scope)(cpos:Pos)(y:DL)(p:Pos)(line:Nat):Bool:=(if sc.kind.isAnnotationScope then ScopeKind.function else sc.kind) == .function&&sc.names.lookup y == DJ .local&&p.line == cpos.line&& !(scope.names.any fun (n,k)=>n == y&&(k == .local || k == .cell))
section
variable (sc:Scope) (fs:List DL)
noncomputable def BV(p:Cx->aR->Nat->Nat->Prop):Prop:=∀ (cx:Cx) (fa:Nat->Addr) (cl:aR) (n W:Nat),tq cx fa rU je lW m7->iq cx fa cl n->p cx cl n W
noncomputable def GS(st:S)(x:Stmt):Prop:=BV fun cx cl n W=>SX cx cl n W sc fs st x
noncomputable def Db(eh:List S)(xs:List Stmt):Prop:=BV fun cx cl n W=>wH cx cl n W sc fs eh xs
noncomputable def RS(x:Stmt):Type:=Option {st:S // GS sc fs st x}
noncomputable def wI(f:∀ x,RS sc fs x):∀ xs:List Stmt,Option {eh:List S // Db sc fs eh xs}
 | []=>DJ ⟨[],fun _ _ _ _ _ _ _=>wH.nil⟩
 | x::xs=>El (f x) fun s=>(wI f xs).bind fun ss=>DJ ⟨s.1::ss.1,fun cx fa cl n W F hc=>wH.cons (s.2 cx fa cl n W F hc) (ss.2 cx fa cl n W F hc)⟩
theorem zE(h:kR op=o)(he:GE sc fs [] e x)(hy:ew fs (.one i) (.Name y py)=true)(hv:nu y=true)(ho:lV op=true):GS sc fs (.augLoc i op e) (.AugAssign (.Name y py) o x pos):=by
 subst h;exact fun cx fa cl n W F hc=>SX.augLoc (he cx fa cl n F hc).1 hy (g8 hv).2 ho
theorem yA(h:kR op=o)(ho:GE sc fs [] eo xo)(he:GE sc fs [] e x)(hv:lV op=true):GS sc fs (.augAttr eo name.cps.toList op e) (.AugAssign (.Attribute xo name pa) o x pos):=by
 subst h;exact fun cx fa cl n W F hc=>SX.augAttr F.ok F.cls (ho cx fa cl n F hc).1 (he cx fa cl n F hc).1 (decide_eq_true rfl) hv
theorem zF(h:kR op=o)(ho:GE sc fs [] eo xo)(hi:GE sc fs [] ei xi)(he:GE sc fs [] e x)(hn:iO xi=true)(hv:lV op=true):GS sc fs (.augSub eo ei op e) (.AugAssign (.Subscript xo xi pa) o x pos):=by
 subst h;exact fun cx fa cl n W F hc=>SX.augSub (ho cx fa cl n F hc).1 (hi cx fa cl n F hc).1 (he cx fa cl n F hc).1 hn hv
theorem yC{c:CP}{i:Nat}{elt:Expr}{gens:List Comprehension}{scope:Scope}{cpos pos q:Pos}{y:DL}(h:GC sc fs [] c elt gens scope cpos)(hy:ew fs (.one i) (.Name y q)=true):GS sc fs (.assign (.one i) (.comp c.k c.t c.rng c.it c.g)) (.Assign [.Name y q] (.ListComp elt gens scope cpos) pos):=by
 intro cx fa cl n W F hc;have sw:∀ env:Env,env.scope=sc->swapsWith (.ListComp elt gens scope cpos) (DJ (.Name y q)) pos.line env=pure (z8 sc scope cpos y q pos.line):=fun env hs=>by subst hs;rfl
 cases b:z8 sc scope cpos y q pos.line with
 | false=>exact SX.asg (h.ge cx fa cl n F hc).1 hy (fun env hs=>by (refine DK (sw env hs) ?_;refine yF b ?_;rfl)) rfl
 | true=>
  refine eT h fun target iter ifs rest z16=>?_;clear h;refine yJ z16 fun ns z72 h1 h2 h3 h4 h5 h6=>?_;clear z16;subst z72;exact SX.used h1 h2 h3 h4 (h5 cx fa cl n F hc) (h6 cx fa cl n F hc) hy fun env hs=>by (refine DK (sw env hs) ?_;refine yF b ?_;rfl)
noncomputable def BW(k:Nat)(t y:Expr)(pos:Pos):RS sc fs (.Assign [t] y pos):=match y with
 | .ListComp elt gens scope cpos=>match t with
  | .Name nm q=>(C9 (tK fs k sc []) (tK fs k) elt gens scope cpos).bind fun c=>(gv (ew fs (.one (ix fs nm)) (.Name nm q))).bind fun h=>DJ ⟨.assign (.one (ix fs nm)) (.comp c.1.k c.1.t c.1.rng c.1.it c.1.g),yC sc fs c.2 h.1⟩
  | _=>none
 | y=>(gv (j9 y)).bind fun hy=>El (tK fs k sc [] y) fun e=>match t with
  | .Attribute o nm q=>El (tK fs k sc [] o) fun a=>DJ ⟨.setAttr a.1 nm.cps.toList e.1,fun cx fa cl n W F hc=>SX.stAttr F.ok F.cls (e.2 cx fa cl n F hc).1 (a.2 cx fa cl n F hc).1 (decide_eq_true rfl) hy.1⟩
  | .Subscript o i q=>El (tK fs k sc [] o) fun a=>El (tK fs k sc [] i) fun b=>DJ ⟨.setSub a.1 b.1 e.1,fun cx fa cl n W F hc=>SX.stSub (e.2 cx fa cl n F hc).1 (a.2 cx fa cl n F hc).1 (b.2 cx fa cl n F hc).1 hy.1⟩
  | t=>(Cd fs t).bind fun tg=>(gv (uH t y)).bind fun hv=>DJ ⟨.assign tg.1 e.1,fun cx fa cl n W F hc=>SX.asg (e.2 cx fa cl n F hc).1 tg.2 (fun _ _=>fQ hy.1) hv.1⟩
noncomputable def BX(k:Nat)(t:Expr)(o:Operator)(y:Expr)(pos:Pos):RS sc fs (.AugAssign t o y pos):=(inv kR o Da).bind fun op=>(gv (lV op.1)).bind fun ho=>El (tK fs k sc [] y) fun e=>match t with
 | .Name nm q=>(gv (ew fs (.one (ix fs nm)) (.Name nm q))).bind fun h=>(gv (nu nm)).bind fun hv=>DJ ⟨.augLoc (ix fs nm) op.1 e.1,zE sc fs op.2 e.2 h.1 hv.1 ho.1⟩
 | .Attribute a nm q=>El (tK fs k sc [] a) fun b=>DJ ⟨.augAttr b.1 nm.cps.toList op.1 e.1,yA sc fs op.2 b.2 e.2 ho.1⟩
 | .Subscript a i q=>(gv (iO i)).bind fun hi=>El (tK fs k sc [] a) fun b=>El (tK fs k sc [] i) fun c=>DJ ⟨.augSub b.1 c.1 op.1 e.1,zF sc fs op.2 b.2 c.2 e.2 hi.1 ho.1⟩
 | _=>none
noncomputable def BY(k:Nat)(f:∀ x,RS sc fs x)(x:Stmt):RS sc fs x:=match x with
 | .Continue p=>DJ ⟨.cont,fun _ _ _ _ _ _ _=>SX.cont⟩
 | .Pass p=>DJ ⟨.pass,fun _ _ _ _ _ _ _=>SX.pass⟩
 | .Return y p=>match y with
  | some y=>El (tK fs k sc [] y) fun e=>DJ ⟨.ret e.1,fun cx fa cl n W F hc=>SX.ret (e.2 cx fa cl n F hc).1⟩
  | none=>none
 | .Expr y p=>(gv (j9 y)).bind fun h=>El (tK fs k sc [] y) fun e=>DJ ⟨.expr e.1,fun cx fa cl n W F hc=>SX.expr (e.2 cx fa cl n F hc).1 h.1⟩
 | .Assign ts y p=>match ts with
  | [t]=>BW sc fs k t y p
  | _=>none
 | .AugAssign t o y p=>BX sc fs k t o y p
 | .If t b o p=>(gv (fR t)).bind fun h=>El (tK fs k sc [] t) fun e=>(wI sc fs f b).bind fun u=>(wI sc fs f o).bind fun v=>DJ ⟨.ite e.1 u.1 v.1,fun cx fa cl n W F hc=>SX.ite ((e.2 cx fa cl n F hc).2 h.1) (u.2 cx fa cl n W F hc) (v.2 cx fa cl n W F hc)⟩
 | .While t b o p=>match o with
  | []=>(gv (fR t)).bind fun h=>El (tK fs k sc [] t) fun e=>(wI sc fs f b).bind fun u=>DJ ⟨.while_ e.1 u.1,fun cx fa cl n W F hc=>SX.while_ ((e.2 cx fa cl n F hc).2 h.1) (u.2 cx fa cl n W F hc)⟩
  | _=>none
 | .For t it b o p=>match o with
  | []=>(Cd fs t).bind fun tg=>(gv (iu it)).bind fun h=>(CV (tK fs k sc []) it).bind fun r=>(wI sc fs f b).bind fun u=>DJ ⟨.for_ tg.1 r.1.1 r.1.2 u.1,fun cx fa cl n W F hc=>SX.for_ (r.2 cx fa cl n F hc) tg.2 h.1 (u.2 cx fa cl n W F hc)⟩
  | _=>none
 | _=>DJ ⟨.fail,fun _ _ _ _ _ _ _=>SX.fail⟩
noncomputable def Dc(k:Nat):Nat->∀ x,RS sc fs x
 | 0,_=>none
 | d+1,x=>BY sc fs k (Dc k d) x
noncomputable def Dd(xs:List Stmt):Option {eh:List S // Db sc fs eh xs}:=wI sc fs (Dc sc fs 40 20) xs
end
noncomputable def Ba(K:Frag)(dV:DW):Bool:=match dV with
 | .none=>true
 | .ref t=>match K.lookup t with
  | some o=>match o.data with
   | .seq _ _=>true
   | _=>false
  | none=>false
 | _=>false
set_option backward.match.sparseCases true in
set_option tactic.hygienic true in
theorem zG{K:Frag}{dV:DW}(h:Ba K dV=true):∃ r,∀ S,peek K S (seqItems? dV)=DJ r:=by
 cases dV<;>first | exact⟨_,fun S=>rfl⟩ | (exact fT h;done) | skip
 rename_i t;have e:seqItems? (.ref t)=Sem.load t none (fun o=>match o.data with | .seq xs _=>pure (DJ xs) | _=>pure none):=rfl;unfold Ba at h;cases q:K.lookup t with
 | none=>simp only[q]at h;cases h
 | some o=>
  obtain⟨oc,od,dt,os⟩:=o;simp only[q]at h;cases dt<;>first | (cases h;done) | skip
  rename_i xs ep;refine⟨DJ xs,fun S=> ?_⟩;refine yF e ?_;simp only[peek,q];rfl
noncomputable def Dz(K:Frag)(args:List Arg)(scope:Scope)(qual:DL)(gg bi:Addr)(dV cdv:DW)(nl:Nat)(fs:List DL):Bool:=
 gg == mainGlobals&&(bi == builtinsNs&&(codeIn K cdv qual&&(!scope.isCoroutine&&(!scope.isGenerator&&(scope.kind == .function&&(decide (args.length<=nl)&&(decide (fs.take args.length=args.map (·.arg))&&(fs.length == nl&&(decide fs.Nodup
   &&(fs.all (fun x=>scope.names.lookup x == DJ .local || scope.names.lookup x == DJ .cell)&&(decide (scope.names.map (·.1)).Nodup&&(scope.names.all (fun x=>x.2 != .free)&&Ba K dV))))))))))))
noncomputable def GF(K:Frag)(a:Addr)(fn:Fn):Prop:=∀ (cx:Cx) (fa:Nat->Addr) (f:Nat),cx.K=K->fa f=a->tq cx fa rU je lW m7->zZ cx fa f fn
noncomputable def CW(K:Frag)(a:Addr)(fs:List DL):Option {fn:Fn // GF K a fn}:=(look (K.lookup a)).bind fun o=>match o with
 | ⟨⟨oc,od,.func ⟨name,qual,⟨[],args,none,[],[],none,dfl⟩,.stmts body,scope,gg,[],dV,kV,doc,pm,an,cdv,ct,bi⟩,osl⟩,hk⟩=>
  (gv (Dz K args scope qual gg bi dV cdv fs.length fs)).bind fun hB=>(Dd scope fs body).bind fun b=>DJ ⟨⟨args.length,fs.length,b.1⟩,fun cx fa f e1 e2 F=>by
   subst e1 e2;refine am (iA hB.1) fun h1 h=>?_;refine am (iA h) fun h2 h=>?_;refine am (iA h) fun h3 h=>?_;refine am (iA h) fun h4 h=>?_;refine am (iA h) fun h5 h=>?_;refine am (iA h) fun h6 h=>?_;refine am (iA h) fun h7 h=>?_;refine am (iA h) fun h8 h=>?_;refine am (iA h) fun h9 h=>?_;refine am (iA h) fun h10 h=>?_;refine am (iA h) fun h11 h=>?_;refine am (iA h) fun h12 h=>?_;refine am (iA h) fun h13 hS=>?_;cases eq_of_beq h1;cases eq_of_beq h2;exact⟨name,qual,args,dfl,body,scope,dV,kV,doc,pm,an,cdv,ct,oc,od,osl,fs,{ look:=hk,code:=h3,seq:=zG hS,co:=(FH _).mp h4,gen:=(FH _).mp h5,kind:=eq_of_beq h6,np:=rfl,npl:=of_decide_eq_true h7,take:=of_decide_eq_true h8,len:=rfl,nodup:=of_decide_eq_true h10,kinds:=fun x m=>((E4 _ _).mp (Fc.mp h11 x m)).imp eq_of_beq eq_of_beq,nd:=of_decide_eq_true h12,nofree:=fun x e=>(bne_iff_ne.mp (Fc.mp h13 _ (mem_of_lookup e))) rfl,body:=fun n W cl hcl=>b.2 cx fa cl n W F hcl }⟩⟩
 | _=>none
end Mine.Internal
end
section
open PySem PySem.W PyProof.Rows PySem.Calls
set_option maxHeartbeats 0
namespace Mine.Internal
noncomputable def o6:Addr:=134
noncomputable def DA:List Nat:=[75,61,82,87,94,101,109,117,124,145,152,159,166,173,180,187,194,201,208,215,222,229,234,241,248,255,262,269,276,283,290,295,300,307,314,321,326,333,340,347,354,361,368,373,378,383,390,395,400,405,412,417,422]
noncomputable def fa(n:Nat):Addr:=DA.getD n 0
noncomputable def z9(v:Option (Option DW))(i:Int):Bool:=match v with
 | some (DJ (.int j _))=>j == i
 | _=>false
theorem yD{i:Int}(h:z9 v i=true):∃ t,v=DJ (DJ (.int i t)):=by
 cases v with
 | none=>exact fT h
 | some v=>cases v with
  | none=>exact fT h
  | some v=>cases v with
   | int j t=>exact ⟨t,congrArg (fun j=>DJ (DJ (DW.int j t))) (beq_iff_eq.mp h)⟩
   | _=>exact fT h
noncomputable def pr:Program:=(OpenRow.toRowW (OpenLaw.row FZ)).prog
noncomputable def vq:Program:=view pr ((Ec 56).filter fun i=> !(i == 1 || i == 4 || i == 14 || i == 22 || i == 42))
noncomputable def lo:List DL:=["GateloomError"]
noncomputable def De:List Nat:=[2,3,15,17,18,20,21,22,29,30,32,33,35,36,37,38,39,40,43,50,51,52,55,57,58,60,61,69,71,72,74,75,76,78,79,81,82,83,86,87,88,90,91,93,94,95,97,98,100,101,102,103,105,106,108,109,110,111,113,114,116,117,118,120,121,123,124,125,127,128,130,131,132,133,134,135,136,139,141,142,144,145,146,148,149,151,152,153,155,156,158,159,160,162,163,165,166,167,169,170,172,173,174,176,177,179,180,181,183,184,186,187,188,190,191,193,194,195,197,198,200,201,202,204,205,207,208,209,211,212,214,215,216,218,219,221,222,223,225,226,228,229,230,233,234,235,237,238,240,241,242,244,245,247,248,249,251,252,254,255,256,258,259,261,262,263,265,266,268,269,270,272,273,275,276,277,279,280,282,283,284,286,287,289,290,291,294,295,296,299,300,301,303,304,306,307,308,310,311,313,314,315,317,318,320,321,322,325,326,327,329,330,332,333,334,336,337,339,340,341,343,344,346,347,348,350,351,353,354,355,357,358,360,361,362,364,365,367,368,369,372,373,374,377,378,379,382,383,384,386,387,389,390,391,394,395,396,399,400,401,404,405,406,408,409,411,412,413,416,417,418,421,422]
noncomputable def jf(h:Heap):Frag:=De.filterMap fun a=>(h.get? a).map fun o=>(a,o)
theorem wJ(h:Heap):(jf h).In h:=by
 unfold jf;generalize De=l;intro a o e;induction l with
 | nil=>cases e
 | cons b l ih=>
  rw[I5]at e;cases r:h.get? b with
  | none=>
   rw[r]at e;exact ih e
  | some x=>
   rw[r]at e;simp only[KG,HN]at e;split at e
   ·rename_i q;cases e;refine yF (beq_iff_eq.mp q) ?_;exact r
   ·exact ih e
noncomputable def o8(K:Frag)(l:List Nat):List (Option Fn):=l.map fun f=>(CW K (fa f) (names f)).map (·.1)
noncomputable def l1:List Nat:=Ec 27
noncomputable def l2:List Nat:=(Ec 26).map (· +27)
noncomputable def vA(K:Frag):Bool:=rU.all fun q=>nsIn K mainGlobals q.1 == DJ (DJ (.ref (fa q.2)))&&keepIn K (.ref (fa q.2))
noncomputable def qx(K:Frag):Bool:=je.all fun q=> !cj.contains q.1.cps.toList&&findIn K (.ref o6) q.1 == DJ (DJ (.ref (fa q.2)))&&isFn K (.ref (fa q.2))&&keepIn K (.ref (fa q.2))
noncomputable def tH(K:Frag):Bool:=lW.all fun q=>z9 (nsIn K mainGlobals q.1) q.2
noncomputable def vB(K:Frag):Bool:=m7.all fun q=>nsIn K mainGlobals q.1 == DJ none&&bootBuiltins q.1 == DJ q.2&&q.1 != "__name__"
noncomputable def yE(K:Frag):Bool:=nsIn K mainGlobals "Netlist" == DJ (DJ (.ref o6))&&keepIn K (.ref o6)
noncomputable def tI(K:Frag):Bool:=findIn K (.ref o6) "__init__" == DJ (DJ (.ref (fa 0)))&&typeIn K (.ref (fa 0)) == DJ (.type "function")
noncomputable def vC(K:Frag):Bool:=plainGet K o6 "" &&hasDictIn K o6&&plainOver K o6&&findIn K (.ref o6) "__setattr__" == DJ (DJ (.builtin "object.__setattr__"))&&cj.all fun n=>findIn K (.ref o6) ⟨n.toArray⟩ == DJ none
noncomputable def vD(K:Frag):Bool:=vA K&&qx K&&tH K&&vB K&&yE K&&makesIn K o6&&tI K&&vC K
noncomputable def BZ(K:Frag):Prop:=o8 K l1=l1.map P/\o8 K l2=l2.map P/\vD K=true
noncomputable def tJ:Hook where
 α:=List (Option Fn) × List (Option Fn) × Bool
 obs s:=(o8 (jf s.heap) l1,o8 (jf s.heap) l2,vD (jf s.heap))
 val _:=(l1.map P,l2.map P,true)
 says _ h:=∃ K:Frag,K.In h/\BZ K
 of _ s e:=⟨jf s.heap,wJ _,congrArg Prod.fst e,congrArg (fun x=>x.2.1) e,congrArg (fun x=>x.2.2) e⟩
 keeps _ _ _ x k:=x.elim fun K p=>⟨K,p.1.keeps k,p.2⟩
theorem zH{Xt:DQ->Bool}{Yf:DQ->α}{Ya:World->α}
  (e:opening p=plainProg p.main.scope.names) (hN:IQ 600 N=true) (f:∀ s,fenceModules? p s=DJ s)
  (h:∀ w os,(topFrom treeTable p w N ⟨boot_heap w.params,Qa [],boot_drawn,boot_toks,os⟩).map (fun s=>(openSeen q loose (importedModules p.main.body) Xt true s,Yf s))=DJ (openGood q loose,Ya w)):LeftO p q loose Xt Yf Ya N:=fun w=>by
 refine af (Eu.mp (boot_open e hN f w)) fun s₀ a b=>?_;unfold openEnds;refine yF a ?_;obtain⟨hp,g,d,t,os⟩:=s₀;simp only[Fp]at b;refine eQ b fun z1 z2 z3 z4=>?_;clear b;subst z1;subst z2;subst z3;subst z4;exact h w os
theorem DB{α β γ:Type}{o:Option α}{f:α->β}{g:α->γ}{a:β}{b:γ}(h:o.map f=DJ a)(k:o.map g=DJ b):o.map (fun s=>(f s,g s))=DJ (a,b):=by
 cases o with
 | none=>cases h
 | some x=>cases h;cases k;rfl
noncomputable def T (w:World) (os:OsState):Option DQ:=topFrom treeTable pr w 4934 ⟨boot_heap w.params,Qa [],boot_drawn,boot_toks,os⟩
theorem B1:opening pr=plainProg pr.main.scope.names:=by kernel_rfl
theorem B2(s:DQ):fenceModules? pr s=DJ s:=by kernel_rfl
noncomputable def xt(s:DQ):Bool:=xlAt vq [] s&&recOk (RowW.records (OpenRow.toRowW (OpenLaw.row FZ))) s
theorem rA(w:World)(os:OsState):(T w os).map (fun s=>(seen ((recsOf vq).map (·.name)) (ownsOf vq) [] { s with gens:= #[] },s.heap.bltView,
 s.heap.keysOk (looseW vq lo) ((recsOf vq).map (·.name)) ((litsOf vq).map (·.1)) ((clssOf vq (looseW vq lo)).map (·.name))&&s.heap.accountedOkI (importedModules pr.main.body)&&s.heap.isNs mainGlobals&&s.heap.isNs builtinsNs&&tablesOk vq s.heap&&xt s&&(if true then s.gens.size == 0 else !leftWithCleanup s.gens),
 tabsOk vq s))=DJ (expectedOf vq,bltViewBooted,true,true):=by
 unfold T topFrom;rewrite [Fs,Ft,FB,Jv,Je,Jf,Jg,JB];kernel_rfl
theorem rB(w:World)(os:OsState):(T w os).map (fun s=>(pinSeenD vq (drecsOf vq) s,plainSeenE vq (looseW vq lo) s,plainSeenD vq lo s,wideSeen vq s,clsSeenW vq lo s))=DJ (pinGoodD (drecsOf vq),plainGoodE vq (looseW vq lo),plainGoodD vq lo,wideGood vq,clsGoodW vq lo):=by
 unfold T topFrom;rewrite [Fs,Ft,FB,Jh,Jw,Ji,Jx,Jy];kernel_rfl
theorem rC(w:World)(os:OsState):(T w os).map (fun s=>o8 (jf s.heap) l1)=DJ (l1.map P):=by
 unfold T topFrom;rewrite [Fs,Ft,FB];kernel_rfl
theorem rD(w:World)(os:OsState):(T w os).map (fun s=>(o8 (jf s.heap) l2,vD (jf s.heap)))=DJ (l2.map P,true):=by
 unfold T topFrom;rewrite [Fs,Ft,FB];kernel_rfl
theorem left:LeftO pr vq lo xt tJ.obs tJ.val 4934:=by
 refine zH B1 (by decide) B2 fun w os=> ?_;refine af (Eu.mp (rA w os)) fun s e a=>?_;refine af (Eu.mp (rB w os)) fun s1 e1 b=>?_;refine af (Eu.mp (rC w os)) fun s2 e2 c=>?_;refine af (Eu.mp (rD w os)) fun s3 e3 d=>?_;cases e.symm.trans e1;cases e.symm.trans e2;cases e.symm.trans e3;refine Eu.mpr ⟨s,e,?_⟩;simp only[Fp]at a b d;refine eQ a fun a1 a2 a3 a4=>?_;clear a;refine nw b fun b1 b2 b3 b4 b5=>?_;clear b;refine am d fun d1 d2=>?_;clear d;unfold openSeen openGood tJ;dsimp only;refine yF a1 ?_;refine yF a2 ?_;refine yF a4 ?_;refine yF b1 ?_;refine yF b2 ?_;refine yF b3 ?_;refine yF b4 ?_;refine yF b5 ?_;refine yF c ?_;refine yF d1 ?_;refine yF d2 ?_;exact congrArg (fun z=>((_,_,z,_,_,_,_,_,_),_,_,_)) a3
end Mine.Internal
end
section
open PySem PySem.W PyProof.Rows PySem.Calls
namespace Mine.Internal
theorem CX(n:Nat):P (n+53)=none:=EN (l:=PL) (Nat.le_add_left 53 n)
theorem Bb{K:Frag}(KA:BZ K)(f:Nat)(fn:Fn)(h:P f=DJ fn):GF K (fa f) fn:=by
 have lt:f<53:=Nat.lt_of_not_ge fun z=>by
  rw[<- Nat.sub_add_cancel z,CX]at h;exact nO h
 have q:∀ l,o8 K l=l.map P->f∈l->GF K (fa f) fn:=fun l e m=>by
  have e:=(List.map_inj_left.mp e f m).trans h;refine af (Eu.mp e) fun a uu z3=>?_;subst z3;exact a.2
 by_cases c:f<27
 ·exact q _ KA.1 (E7.mpr c)
 ·exact q _ KA.2.1 (Es.mpr ⟨f - 27,E7.mpr (by omega),by omega⟩)
noncomputable def uK(K:Frag)(prog:Program)(w:World)(hb:Heap)(p:Program)(loose:List DL)(mg mb:DL->Option DW):Cx:=⟨prog,w,o6,hb,K,p,loose,mg,mb⟩
set_option tactic.hygienic true in
theorem pc{prog:Program}{w:World}{hb:Heap}{p:Program}{loose:List DL}{mg mb:DL->Option DW}{K:Frag}(KA:BZ K)(X:K.In hb)(T:TopRead p loose mg mb hb):tq (uK K prog w hb p loose mg mb) fa rU je lW m7:=by
 have z:=KA.2.2;simp only[vD,Eb]at z;refine am z fun z1 c=>?_;clear z;refine am z1 fun z61 e6=>?_;clear z1;refine am z61 fun z121 e7=>?_;clear z61;refine am z121 fun z181 e5=>?_;clear z121;refine am z181 fun z241 e4=>?_;clear z181;refine am z241 fun z301 e3=>?_;clear z241;refine am z301 fun e1 e2=>?_;clear z301;unfold vC at c;simp only[Eb,beq_iff_eq,Fc]at c;refine am c fun z1 c5=>?_;clear c;refine am z1 fun z61 c4=>?_;clear z1;refine am z61 fun z121 c3=>?_;clear z61;refine am z121 fun c1 c2=>?_;clear z121;unfold vA at e1;unfold qx at e2;unfold tH at e3;unfold vB at e4;unfold yE at e5;unfold tI at e6;simp only[Fc,Eb,beq_iff_eq,FH,bne_iff_ne,ne_eq]at e1 e2 e3 e4 e5 e6;refine { ok:=⟨X,T⟩,cls:=⟨c1,c2,c3,c4,c5⟩,fns:=fun x f h=> ?_,meths:=fun x f h=> ?_,nums:=fun x i h=> ?_,bis:=fun x v h=> ?_,net:=⟨mg_of X T.g e5.1,e5.2⟩,makes:=e7,init:=e6 }
 ·have:=e1 _ (GV h);exact⟨mg_of X T.g this.1,this.2⟩
 ·have:=e2 _ (GV h);exact⟨this.1.1.1,this.1.1.2,this.1.2,this.2⟩
 ·have:=e3 _ (GV h);exact aq (yD this) fun t e=>⟨t,mg_of X T.g e⟩
 ·have:=e4 _ (GV h);exact⟨mg_none_of X T.g this.1.1,this.1.2,this.2⟩
theorem yG{prog:Program}{w:World}{hb:Heap}{p:Program}{loose:List DL}{mg mb:DL->Option DW}{K:Frag}(KA:BZ K)(X:K.In hb)(T:TopRead p loose mg mb hb)(W n:Nat):iq (uK K prog w hb p loose mg mb) fa (ad P W n) n:=
 uJ (pc KA X T).ok (fun f fn h=>Bb KA f fn h _ fa f rfl rfl (pc KA X T)) W n
end Mine.Internal
end
section
open PySem PySem.W PyProof.Rows PySem.Calls
namespace Mine.Internal
noncomputable def qy(scope:Scope)(fs:List DL):Bool:=
 scope.kind == .function&&fs.all (fun x=>scope.names.lookup x == DJ .local)&&decide fs.Nodup&&scope.names.all (fun x=>x.2 != .cell&&x.2 != .free)
theorem zI{mg mb:DL->Option DW}{E:DW->DQ->Prop}{mm:DL->Option DW}
  {x y:DL} {vals:List DW} {zs:List Int} {W n:Nat} {body:List S} {m':aZ} {H':Hp} {r:aZ} {j:Nat}
  {K:Frag} (KA:BZ K) (X:K.In h₀) (T:TopRead p loose mg mb h₀) (F:Fr h₀ L s.heap mm) (hx:mm x=DJ (.ref a)) (hl:h₀.IsList a vals.toArray) (hi:IntsAre vals zs) (hlen:zs.length<=2097152) (hA:kl A n)
  (hsc:qy scope fs=true) (hxl:scope.names.lookup x=DJ .local) (hxd:(x == ("__debug__" :DL))=false) (hxc:(x == ("__classdict__" :DL))=false) (hj:fs[j]? =DJ y)
  (hr:r=(D0 fs.length none).set j (DJ (AV.ref 0))) (hok:(Dd scope fs rest).map (·.1)=DJ body) (he:cF (ad P W n) W body r [.list ((zs.take 63).map .int)]=DJ (.ret (.bool true),m',H')):
  D2 (model prog w) A (execs (.Assign [.Name y p1] (.Subscript (.Name x p2) (.Slice none (DJ (.Constant (.int 63) k p3)) none p4) p5) p6::rest) (envOf nm scope L f cd))
   (fun fl s'=>fl= .ret (.bool true)/\(∃ h tk,s'={ s with heap:=h,toks:=tk })/\∀ b o,h₀.get? b=DJ o->s'.heap.get? b=DJ o) E s:=by
 have FA:=pc (prog:=prog) (w:=w) (hb:=h₀) (p:=p) (loose:=loose) (mg:=mg) (mb:=mb) KA X T;have CA:=yG (prog:=prog) (w:=w) (hb:=h₀) (p:=p) (loose:=loose) (mg:=mg) (mb:=mb) KA X T W n;unfold qy at hsc;simp only[Eb,beq_iff_eq,Fc,decide_eq_true_eq,bne_iff_ne,ne_eq]at hsc;refine am hsc fun z1 k4=>?_;clear hsc;refine am z1 fun z61 k3=>?_;clear z1;refine am z61 fun k1 k2=>?_;clear z61;have I0:cf (uK K prog w h₀ p loose mg mb) [] [] s.heap:=by
  refine⟨⟨rfl,Ip,fun i o a e=>by simp at e⟩,F.keep,fun a ha=>(by cases ha),?_,fun a ha=>(by cases ha)⟩;refine af T.nolimit fun mc hc uu=>?_;exact Ns.alive hc
 have hLn:h₀.get? L=none:=Heap.get?_none_of_le F.above;have SC:eK (uK K prog w h₀ p loose mg mb) (envOf nm scope L f cd) fs [] (D0 fs.length none) [] [] [] s.heap:=by
  refine⟨⟨I0,k1,rfl,rfl,fun b eb=> ?_,fun i z v _ _ hm=> ?_,fun i z v hz _=>by simp at hz,rfl,fun z hz=> ?_⟩,⟨⟨mm,F.ns⟩,fun _ q hq=>by cases hq⟩⟩
  ·rcases eb with eb | ⟨z,hz⟩
   ·have eb:b=L:=eb;subst eb;exact⟨by simp,Ns.alive F.ns,hLn⟩
   ·cases hz
  ·rw[G7]at hm;split at hm<;>cases hm
  ·rcases hz with q | q
   ·exact absurd rfl (k4 _ (mem_of_lookup q)).1
   ·exact absurd rfl (k4 _ (mem_of_lookup q)).2
 have SO:dG (envOf nm scope L f cd) fs:=⟨k1,fun q hq=>(by cases hq),fun z hz=> .inl (k2 z hz),k3⟩;refine Kc (IZ ?_ (show swapsWith (.Subscript (.Name x p2) (.Slice none (DJ (.Constant (.int 63) k p3)) none p4) p5) (DJ (.Name y p1)) p6.line (envOf nm scope L f cd)=pure false from fQ rfl) (kn rfl));refine HC ?_ (fun _ _=>rfl);refine zX (cx:=uK K prog w h₀ p loose mg mb) k1 (.inl ⟨hxl,mm,F.ns,hx⟩) hxd hxc ?_;show D2 _ _ (pure Ic) _ _ _;refine DP ?_;show D2 _ _ (eval (.Constant (.int 63) k p3) _) _ _ _;with_reducible refine HB ?_
 refine aM hl fun lo hlo hlc z16=>?_;clear hl;refine aq z16 fun q hld=>?_;clear z16;have hvl:vals.length=zs.length:=hi.length;have z2:=jJ;refine⟨a,vals.toArray,none,DJ (63:Int),rfl,⟨lo,F.keep _ _ hlo,hlc,q,hld⟩,by refine yF FV ?_;exact bS (nat_lit 13334307658867462636156886003499943361) tt hvl hlen z2,by constructor,by constructor,?_⟩;have e63:(63:Int)=((63:Nat):Int):=rfl;refine yF e63 ?_;refine yF (KD _ _) ?_;have kk:∀ b o,s.heap.get? b=DJ o->((s.heap.push { cls:= .type "slice",data:= .fields #[.none,.int ((63:Nat):Int) s.toks,.none] }).push { cls:= .type "list",data:= .seq (vals.toArray.toList.take 63).toArray }).get? b=DJ o:=fun b o e=>D3 _ (D3 _ e);have hz1:(s.heap.push { cls:= .type "slice",data:= .fields #[.none,.int ((63:Nat):Int) s.toks,.none] }).objs.size=s.heap.objs.size+1:=F2 ..;have fr:s.heap.get? (s.heap.objs.size+1)=none:=by
  cases q:s.heap.get? (s.heap.objs.size+1) with
  | none=>rfl
  | some o=>exact absurd (FF q) (Fe.mpr (IP _))
 have rep:∀ {J:Jm} {h:Heap} {vs:List DW} {is:List Int},IntsAre vs is->cE J h (is.map AV.int) vs:=by
  intro J h vs is hh;induction hh with
  | nil=>rfl
  | cons _ _ _ ih=>exact ⟨_,_,rfl,⟨_,rfl⟩,ih⟩
 have EP:ak (uK K prog w h₀ p loose mg mb) [] s (.ref 0) [.list ((zs.take 63).map .int)] (.ref (s.heap.objs.size+1)) { s with heap:=(s.heap.push { cls:= .type "slice",data:= .fields #[.none,.int ((63:Nat):Int) s.toks,.none] }).push { cls:= .type "list",data:= .seq (vals.toArray.toList.take 63).toArray },toks:=s.toks+1 }:=by
  refine ak.adopt (J':=[]) (H':=[]) ⟨_,_,rfl⟩ (bV.of_keeps kk) (I0.keeps kk) (by simp) fr (dQ I0 fr) (I0.above_sys (IP _)) ?_;refine⟨(vals.toArray.toList.take 63).toArray,0,?_,?_,?_⟩
  ·refine yB hz1 ?_;exact Er _ rfl
  ·have:=(rep (J:=[s.heap.objs.size+1]) (h:=(s.heap.push { cls:= .type "slice",data:= .fields #[.none,.int ((63:Nat):Int) s.toks,.none] }).push { cls:= .type "list",data:= .seq (vals.toArray.toList.take 63).toArray }) hi).take 63;refine yF Ng ?_;simpa using this
  ·refine yF FV ?_;refine yF EG ?_;exact dm (nat_lit 387976681874372152768) tt (EV _ _)
 refine fu (EP.x SC) fun J1 sm1 S1 X1 r1=>?_;have hae:(assignEach [.Name y p1] (envOf nm scope L f cd)).map (·.2)=[GO (.Name y p1) (envOf nm scope L f cd)]:=rfl;refine yF hae ?_;show D2 _ A (GO (.Name y p1) (envOf nm scope L f cd) (.ref (s.heap.objs.size+1))) _ E _;refine uD (cx:=uK K prog w h₀ p loose mg mb) SO hj X1 r1 fun s2 hst=> ?_;refine bY hst fun sm2 S2 X2=>?_;clear hst;rw[<- hr]at X2;refine af (Eu.mp hok) fun bb uu z3=>?_;subst z3;refine bb.2 _ fa _ _ W FA CA (envOf nm scope L f cd) A s2 J1 _ r _ m' H' _ E rfl hA SO X2 he fun fl s3 p3=> ?_;refine am p3 fun sm3 z16=>?_;clear p3;refine aM z16 fun J3 S3 X3 z86=>?_;clear z16;refine af z86 fun val z142 r3=>?_;clear z86;subst z142;cases r3;exact⟨rfl,ae sm1 (ae sm2 sm3),X3.ctx.inv.base⟩
end Mine.Internal
end
section
open PySem PySem.W PyProof.Rows PySem.Calls
set_option maxHeartbeats 4000000
namespace Mine.Internal
theorem joint:FZ.Holds:=by
 w_on
 refine holds_law (by decide+kernel) fun said=> ?_;refine holds_open (q:=vq) (loose:=lo) (Xt:=xt) (XP:=XL vq []) (Yf:=tJ.obs) (Ya:=tJ.val) (YP:=tJ.says) (N:=4934) left tJ.of tJ.keeps (fun s e=>xl_of s (GD.mp e).1) XL.keeps (by rfl) (by rfl) (by rfl) (fun s e=>recFacts_of (GD.mp e).2) (by rfl) (by first | assumption | decide+kernel) (by decide+kernel) ⟨rfl,rfl,rfl,rfl,rfl,by decide+kernel⟩ ?hw ?hc;case hw=>w_witness2
 case hc=>
 intro w s₀ s₁ mg mb G Y fa o pm cd doc dV kV ho hd hcd hD hmg hg args vals as hpre hlay hrd hwl hlo;refine af Y fun K KX KA=>?_;clear Y;have X:=(Ground.X G).1;have V:=(Ground.X G).2;refine Ground.open G ?_;intro T B D TE TW;try (refine guard_noD D (by decide+kernel) ?_;clear D)
 refine eR (bmod_of_top T) fun uu uu M=>?_;have TA:=at_of_top T;try (refine fL (based_of_top T rfl hmg ho hd) fun uu uu he B0=>?_;have he':cd=_:=he;subst he';clear he)
 clear hmg;wrow_args hpre hlay hrd hwl hlo
 first | refine callC_kw (enter_call ?_) | refine enter_call ?_ | refine callC_kw (enter_callW ?_) | refine enter_callW ?_ | w_how
 w_top on
 try refine JT ?_ (fun _ _ g=>GoodW.toG g)
 have K0:=below_caller (Top.heap T);w_call any ho hd hcd hD T F
 clear hd TA;k_drop
 rename Top _ _ _ _ _ _=>T
 rename Fr _ _ _ _=>F
 rename IntsAre _ _=>hI
 rename Heap.IsList _ _ _=>hL
 rename ¬ _=>hc
 have hlen:_<=63:=Fe.mp (fun z=>hc (by exact_mod_cast z));refine eR (plain _ hlen) fun m' H' he=>?_;refine Fm (zI (W:=1000) (n:=20) (fs:=names 52) (body:=pI.body.drop 1) (r:=jE) (j:=1) KA KX (topRead_of T) F rfl hL hI ?_ ?_ ?_ ?_ ?_ ?_ ?_ ?_ ?_ he) (fun fl s' q=> ?_) (fun _ _ q=>q)
 ·exact DO hlen (by decide)
 ·refine⟨rfl,?_,?_⟩
  ·show 302+3 * 20+12<1000;decide
  ·show 7+20 * 20+220<9900;decide
 ·kernel_rfl
 ·kernel_rfl
 ·kernel_rfl
 ·kernel_rfl
 ·kernel_rfl
 ·kernel_rfl
 ·kernel_rfl
 ·refine bY q fun z1 z2 kp=>?_;clear q;subst z1;refine eR z2 fun h2 tk z93=>?_;clear z2;subst z93;show GoodW _ _ _ _ _ (.ok (.ret (.bool true))) _;refine⟨.inl ⟨_,.bool true,[],rfl,raisesW_false (by wrow_none_raised),.bool true,?_,unshared_nil⟩,kp,rfl,by assumption⟩;wrow_post
end Mine.Internal
end
theorem PySem.Challenge.cw_nn0324_01_holds : PySem.Challenge.rw_nn0324_01.Holds :=
  Mine.Internal.joint
