import PyProof.Rows.All
import Wide.All
import OpenK.AllK
import KE.RegKBase
import KE.BytesMulAny
import KE.KEqDeep
import KE.KxBytes
import PyProof.EqAt
import KE.KBytesCut
import PyProof.LetGo
import PyProof.ListIndexNeg
import KE.BytesMake
import KE.KDictList
import KE.LcSums
import KE.KToBytes
import PyProof.Rows.RuleM_int
import PyProof.Rows.Chain
import PyProof.Rows.AttrNodeAny
import PyProof.PureInt
import PyProof.CompFree
import PyProof.Raises
import PyProof.CompUse
import PyProof.Rows.TupAssign
import PyProof.StationsW
import PyProof.InstStoreFacts
import PyProof.AssignAttr
import PyProof.ExcInit
import PyProof.ExcBaseAll.Exception
import OpenK.KCls
import PyProof.ZipIter
import PyProof.Rows.ZipGen
import PyProof.ListNew
import PyProof.ListOps
import KE.KNest
import Lean
import PySem.Challenge.RW_pf0241_01
set_option Elab.async false
set_option bootstrap.genMatcherCode false
set_option genSizeOf false
set_option genInjectivity false
set_option genCtorIdx false
set_option tactic.hygienic false
set_option linter.all false
set_option autoImplicit false
set_option maxRecDepth 100000
namespace Mine
namespace Internal
open PySem PySem.W PySem.Calls PyProof.Rows
open PySem renaming Value->CE,Addr->CF,model->CG,wpAny->CH,Shared->CI,Expr->CJ,execs->CK,Heap->CL,World->CW,callEnvC->C0,wpAny_mono->C7,wpAny_of_eq->Da,mainGlobals->Dm,rawInt->Dr,wpAny_holding->DB,execs->DC,ExceptHandler->DE,bm_if_false->DL,wpAny_specialOf->DS,wpAny_standAt->DT,builtinsNs->Ej,builtinLookup_eq_fast->EC,typeLookup_type->ED,wpAny_field->EP,exec->EW,wpAny_loadPart_at->EX,wpAny_truthy_bool->EY,checkBuiltinCall->Fi,wpAny_execs_nil->Fk,wpAny_execs_cons->Fy,letOwnedTupleGo->FV,wpAny_call->FX,getMethod_builtin->Gj,wpAny_Name->Gk,wpAny_isSubtype_exc->Gl,wpAny_load->Gm,wpAny_loadName_local->Gn,wpAny_setField->Go,bm_if_true->GR,plainId_quiet->GS,wpAny_isInstance->GT,call_meets->HE,codeAny_of_tree->HG,wpAny_rule->HJ,clipAt_nat->Iy,isSubtype_type->Iz,list_getitem_lookup->IA,wpAny_bindName->IC,wpAny_call_entry->ID,wpAny_newObj_type->IE,wpAny_typeOf->IF,Builtin->JE,Within->JJ,callType_codes->JL,call_meetsIn->JM,codeAny_builtin->JN,codeAny_call_cells->JO,entryFor_of_tree->JP,wpAny_Expr_any->JT,wpAny_assign_Name->JU,wpAny_attempt->JV,wpAny_ite_split->JW,wpAny_lookBehind->JX,wpAny_mkBytes->JY,wpAny_noted->JZ,wpAny_point->J0,wpAny_updateSeq->J3,Fin->Mm,call->Ms,list_append->Mt,wpAt_bind->Mu,wpAt_of_wpAny->Mv,arm_isTrue_Compare->MD,builtinType_eq_fast->ME,codeAny_call_builtin->MF,exec_Assign_Name->MG,meets_dict_get_default->MJ,object_init_meets->MK,pastItsLine_dict->ML,plainObj_wpAny_Assign_Attribute->MM,slot_dict_getitem->MP,slot_list_setitem->MQ,slot_listiter_next->MR,wpAny_assignInOrder_more->MS,wpAny_callSpecial?_slot->MU,wpAny_comprehension_free->MV,wpAny_forIn_list->MW,wpAny_getItem_list->MX,wpAny_getItem_of->MY,wpAny_isTrue_BoolOp->MZ,wpAny_madeBy_exc->M0,wpAny_operating->M1,wpAny_pyIter_list->M2,wpAny_pyIter_zip->M3,wpAny_pyNext_list_item->M4
open _root_.List renaming replicate->CR,range->CS,mem_cons->CX,all_eq_true->C1,getElem?_map->De,toArray->Dg,length_cons->Di,length_drop->Dj,size_toArray->Dk,length_take->Dn,append_nil->Ds,mem_cons_of_mem->Dt,getElem?_eq_none->Dw,map_append->Dx,mem_cons_self->Dy,mem_map->Dz,length_range->DI,mem_singleton->DJ,not_mem_nil->DK,getElem?_set_ne->DN,length->DO,mem_append->DP,isEmpty_iff->DX,map_cons->DY,mem_of_getElem?->DZ,getElem?_append_left->Ee,length_replicate->Ef,mem_iff_getElem?->Eg,take_zero->Em,lookup_cons->EG,take_of_length_le->EH,foldl_cons->ER,getElem?_range->ET,getElem?_eq_none_iff->E0,getElem?_set_self->Fa,take_add_one->Fb,mem_range->Fq,contains_cons->FG,of_mem_zip->FH,take_length->FI,getElem?_append_right->F9,getElem?_concat_length->Ga,getElem_mem->Gb,map_fst_zip->Gc,map_map->Gd,nodup_cons->Ge,filterMap_cons->GB,length_eq_zero_iff->GC,mapM_cons->GD,mem_append_left->GE,reverse_cons->GF,take_nil->GG,cons_append->Hb,drop_eq_nil_of_le->Hf,foldl->Hg,forIn_cons->Hh,getElem?_drop->Hi,getElem?_toArray->Hj,suffix_cons->Hk,take_succ_cons->Hl,all_cons->HZ,any_eq_false->Ia,contains_iff_mem->Ib,drop_zero->Ic,ext_getElem?->Ie,flatten_cons->Ig,getElem?_replicate->Ih,length_pos_iff->Ii,map->Ij,mem_of_mem_take->Ik,nodup_nil->Il,push_toArray->Im,replicate_succ->Io,set_set->Ip,all_map->Ja,any_cons->Jb,any_eq_true->Jc,drop->Je,dropWhile_cons->Jf,drop_drop->Jg,drop_eq_nil_iff->Jh,drop_nil->Ji,find?_cons->Jj,getElem?_of_mem->Jk,getElem?_take->Jl,isEmpty->Jm,length_set->Jn,mem_append_right->Jo,mem_filter->Jp,nodup_append->Jq,range_succ->Jr,dropLast_eq_take->KU,drop_eq_getElem_cons->KV,drop_left->KW,drop_suffix->KX,drop_take->KY,eq_nil_of_length_eq_zero->KZ,filterMap_cons_some->K0,find?_map->K2,find?_some->K5,flatMap_append->K6,flatMap_cons->K7,foldl_append->K8,getElem?_cons_succ->K9,getElem?_zip_eq_some->La,getElem_inj->Lb,length_dropLast->Lc,length_nil->Ld,length_singleton->Le,map_drop->Lf,map_replicate->Lg,map_take->Lh,mem_of_find?_eq_some->Li,nil_append->Lj,nil_prefix->Lk,range_succ_eq_map->Ll,set_append_right->Lm,set_comm->Ln,suffix_refl->Lo,take_append->Lp,take_append_drop->Lq,zipIdx_cons->Lr,zip_cons_cons->Ls
open _root_.Nat renaming lt_trans->CT,le_of_lt->CU,ne_of_lt->CV,lt_irrefl->CY,ne_of_gt->C2,add_assoc->C3,add_le_add_left->C4,le_of_eq->C5,add_le_add->Dd,le_of_not_lt->Dq,sub_le->DQ,lt_succ_self->D6,min_le_right->D9,mul_le_mul_left->Ea,not_lt_zero->Eb,zero_le->Ec,mul_le_mul_right->Eh,add_le_add_right->En,le_of_lt_succ->Eo,lt_of_le_of_ne->Ep,sub_sub->Er,add_comm->Ev,lt_succ_of_le->Ew,not_lt->Ey,mul_le_mul->Ez,lt_succ_of_lt->EI,min_eq_left->EJ,succ_le_succ->EK,le_add_left->EU,zero_add->EV,add_sub_cancel'->Fc,lt_of_not_le->Fd,one_pos->Fe,sub_pos_of_lt->Ff,succ_mul->Fg,add_lt_add_left->Fs,le_of_not_le->Ft,min_eq_right->Fu,le_add_right_of_le->FK,le_succ->FL,lt_of_succ_lt_succ->FM,sub_self->FN,succ_pos->FO,min_le_left->Gf,pow_le_pow_right->Gg,sub_lt_iff_lt_add'->Gh,add_sub_cancel->GI,div_eq_of_lt->GJ,le_of_not_ge->GK,lt_of_lt_of_eq->GL,sub_eq_zero_of_le->GM,sub_lt->GN,zero_mul->GO,le_antisymm->Hm,le_of_succ_le_succ->Hn,lt_add_of_pos_right->Ho,mod_eq_of_lt->Hp,mul_pos->Hq,pow_pos->Hr,succ_add_eq_add_succ->Hs,add_zero->Is,le_of_add_le_add_right->It,mul_succ->Iu,mul_zero->Iv,add_right_comm->Jt,exists_eq_succ_of_ne_zero->Ju,le_mul_of_pos_right->Jv,le_total->Jw,mul_comm->Jx,mul_one->Jy,sub_add_cancel->Jz,succ_le_of_lt->JA,add_div_right->Lv,add_lt_add_right->Lw,add_lt_of_lt_sub'->Lx,add_mod->Ly,add_mul->Lz,add_mul_div_right->LA,add_mul_mod_self_right->LB,add_sub_cancel_left->LC,eq_of_lt_succ_of_not_lt->LD,le_of_add_right_le->LF,le_of_sub_eq_zero->LG,le_of_succ_le->LH,le_one_iff_eq_zero_or_eq_one->LI,le_sub_of_add_le'->LJ,le_sub_one_of_lt->LK,le_succ_of_le->LL,le_zero->LM,log2_lt->LN,lt_of_add_lt_add_left->LP,lt_of_sub_pos->LQ,lt_or_ge->LS,min_comm->LU,mod_two_eq_zero_or_one->LV,mul_add->LW,not_lt_of_le->LX,pow_lt_pow_right->LY,strongRecOn->LZ,sub_add_comm->L1,sub_add_min_cancel->L2,sub_le_iff_le_add'->L4,sub_le_sub_left->L5,sub_sub_self->L6,toUInt8_eq->L7,zero_lt_of_lt->L8
open _root_.UInt8 renaming ofNat->CZ,toNat_ofNat'->GQ,toNat_inj->JK,toNat->Mz
open _root_.Option.some renaming inj->C6,injEq->Nl
open _root_.Int renaming ofNat_lt->C8,toNat->DH,natCast_nonneg->DU,ofNat_le->DV,toNat_natCast->DW,le_trans->Ed,not_lt->El,le_of_lt->EQ,lt_trans->Fp,natCast_pow->FF,natAbs_natCast->FZ,natCast_add->F8,natCast_mul->Gz,ofNat_sub->GA,eq_ofNat_of_zero_le->GV,fdiv_eq_ediv_of_nonneg->GW,fmod_eq_emod_of_nonneg->GX,natCast_pos->GY,toNat_lt->GZ,toNat_of_nonneg->G8,add_comm->HV,le_of_eq->HW,ne_of_gt->HX,sub_nonneg_of_le->HY,add_sub_cancel->IV,lt_of_le_of_lt->IW,lt_toNat->IX,not_le->IY,sub_pos_of_lt->IZ,ediv_nonneg->Kw,emod_lt_of_pos->Kx,le_max_left->Ky,le_max_right->Kz,lt_of_add_one_le->KA,lt_of_lt_of_le->KB,max_eq_right->KC,mul_comm->KD,natAbs_of_nonneg->KE,natCast_ediv->KG,one_mul->KJ,sub_zero->KL,toNat_le->KM
open PySem.Heap renaming get?_push_of_some->Dc,lt_size->Dh,ExtBut->DF,get?_push_size->DG,get?_update_other->Ek,get?_update_self->Eu,size_push->HU,dictOf_iff->IS,get?_none_of_le->IT,get?_push_at->IU,SameBut->Ku,get?_update_ne->Kv
open PySem.Value renaming none->Do,ref->Dp,type->Fw,bool->MA,isInt->MB
open _root_.Ne renaming symm->Du
open PySem.W renaming typeIs_bytes->DR,boot_heap->EB,len_bytes->EO,boot_drawn->HB,boot_toks->HC,callWith_of->HD,looks_findIn->HI,plainGet_of->JS,typeIs_bytes->Mr,readsAllW_cons_inv->MN,readsAllW_nil_inv->MO
open PySem.Str renaming ofString->Ei
open _root_.Option renaming map_eq_some_iff->Es,isNone_iff_eq_none->EA,getD_some->Fv,bind_eq_some_iff->FQ,isSome_iff_exists->FR,map_map->Iw,bind_some->L9,map_some->Ma
open PySem.Builtin.Range renaming rangeSize->Et,small->GU,rangeFitsLong->Nh
open _root_.Bool renaming noConfusion->EE,or_eq_true->EF,or_eq_false_iff->EZ,and_eq_true_iff->Fm,false_eq_true->Fn,not_eq_true'->Fz,or_true->FY,false_or->Gs,not_eq_false'->Gu,or_false->Gv,and_false->HM,eq_iff_iff->HN,false_and->HO,false_ne_true->HP,not_not->HQ,and_true->IH,or_eq_true_iff->II,eq_false_iff->Ka,not_eq_true->Kb,not_true->Kc
open _root_.ForInStep renaming yield->Fo
open PyProof.Rows renaming Call_Name->FA,BoolOp_one->IJ,evalArgs_nil3->JQ,markedEach_of_false->MI,assign_Tuple->Nm,exec_Assign->Nn
open _root_.Eq renaming symm->FC
open _root_.Nat.ToInt renaming of_le->FJ
open PySem.Obj renaming mapFields->FP,data_mapFields->Gi,mapSeq->GP,isFreed_of_fields->Ht,mapBytearray->Hu,data->JC
open PySem.W.WData renaming bool->FT,int->HA,layableAll->MC
open _root_.Array renaming getElem?_eq_some_iff->Gp,mk->Gr,length_toList->HL,isEmpty_iff->IG,foldl->J5,getElem?_eq_getElem->J6,getElem?_eq_none->J7,mem_toList_iff->J8,toArray_toList->J9
open PySem.Builtin.Int renaming intBits->Gw
open PySem.F renaming bm_called->Gx,excBase_Exception->Hv,slot_dict_get->Hw,bm_plain->HT,entry_dict_get->JG,slot_list_append->JH,args_object_init_2->Km,bm_typeCall->Kn,entry_object_init->Ko,slot_int_rmul->Kp,args_dict_get_3->Md,args_list_append_2->Me,entry_list_append->Mf,plainAttrs_dict->Mg,plainAttrs_list->Mh,plain_extend_loop->Mi,slot_list_pop->Mj,store_object->Mk,type_dict_get->Ml
open PySem.Heap.SameBut renaming update->Gy,refl->Nk
open PySem.NameKind renaming cell->GH,free->Ir
open _root_.List.Mem renaming head->G9
open _root_.List.cons renaming inj->Ha,injEq->Jd
open PySem.Within renaming cons->Hx,nil->Hy
open PySem.Sem renaming wp_mono->Hz,wp_bind'->Mw
open PySem.Around renaming under_plainId->HK,frames_deeper->J4
open PySem.Builtin.List renaming listExtendWith->HR,listItems->Kj,listLengthHint->Kk,listFitsIndex->Na,listSameRef->Nb,listSubscript?->Nc,listTooLong->Nf,listUpdate->Ng
open PySem.W.Looks renaming of_pure->Iq,ld->Js
open _root_.Prod.mk renaming injEq->Ix
open PySem.Calls renaming spliced_cons->IB,evalArgs_plain->JR,Name_function_global->Lu,loadGlobal_builtin->MH
open PySem.Builtin.Bytes renaming buffer?->IK,exported->IL,exportsOf->IM,slotIsOwn->IN,byteValue->Ke,checkResize->Kf,containsIn->Kg,decodersThatHold->Kh,ownRelease->Ki,payload->M6,payload?->M7,sameRef->M8,write->M9
open PySem.Code renaming quiet_builtin->IP
open PySem.W.FB renaming slot_bytes_getitem->IQ,args_bytes_contains_2->Kq,entry_bytes_contains->Kr,slot_bytes_contains->Ks
open PySem.Heap.Ns renaming of_isNs->IR
open PySem.W.KBw renaming IsBytesIter->I7,pyIter_bytes->KN
open _root_.Prod renaming ext->JD
open PySem.Expr renaming Call->JF
open PySem.IsL renaming update->JI
open PySem.BoolOp renaming Or->Kd
open PySem.EntryCells renaming newEntry->Kl
open PySem.Heap.Ns1 renaming of_empty->Kt
open _root_.Int.ofNat renaming inj->KI
open PySem.W.KTBy renaming to_big->KO
open PySem.Keeper renaming boundFrame->KP,frame->KR,machine->KS
open PyProof.Rows.LSm renaming BoolsAre->KT
open PyProof renaming noPylong_small->Mb
open PySem.Challenge renaming pw_pf0241_01->Mc,rw_pf0241_01->No
open PySem.W.Fast renaming tw10156331382660048174->Mn,tw11892475500146522536->Mo,tw14364793385576792824->Mp,tw6613529449190102663->Mq,te10156331382660048174->Nr,te11892475500146522536->Nt,te14364793385576792824->Nu,te4187177175401517315->Nv,te6613529449190102663->Nw,tw4187177175401517315->Nx
open _root_.Std.Legacy.Range renaming forIn_eq_forIn_range'->Mx
open _root_.String.Pos.Raw renaming mk_le_mk->My
open PySem.Builtin.Bytes.exported renaming match_1->M5
open PySem.Heap.DictOf renaming new->Ni
open PySem.Heap.IsSliceOf renaming new->Nj
open PySem.MeetsSeq renaming list_pop_last->Np
abbrev CM:=@if_pos
abbrev CN:=@congrArg
abbrev CP:=@absurd
abbrev CQ:=@if_neg
abbrev C9:=@decide_eq_true_eq
abbrev Db:=@decide_eq_true
abbrev Df:=@beq_iff_eq
abbrev Dv:=@of_decide_eq_true
abbrev DA:=@beq_self_eq_true
abbrev DD:=@decide_eq_false
abbrev DM:=@or_false
abbrev EL:=@beq_eq_false_iff_ne
abbrev EM:=@beq_false_of_ne
abbrev Fh:=@bne_iff_ne
abbrev Fj:=@if_false
abbrev Fx:=@not_or
abbrev FU:=@decide_eq_false_iff_not
abbrev HH:=@decide_eq_decide
noncomputable section
section
set_option autoImplicit true
set_option bootstrap.genMatcherCode false
@[elab_as_elim] theorem gn{α:Sort _}{P:α->Prop}(a:α)(h:∀x,P x):P a:=h a
theorem rd{G:Prop}(h:∀G':Prop,(G->G')->G'):G:=h G id
@[elab_as_elim] theorem cX{α:Sort _}{P:α->Prop}(a:α)(h:∀x,a=x->P x):P a:=h a rfl
section
variable {A B C D E F:Sort _}{G:Prop}
theorem o_a{p q:Prop}(h:p/\q)(k:p->q->G):G:=k h.1 h.2
theorem o_e{p:A->Prop}(h:∃a,p a)(k:∀a,p a->G):G:=h.elim k
theorem o_aa{p q r:Prop}(h:p/\q/\r)(k:p->q->r->G):G:=o_a h.2 (k h.1)
theorem o_ae{p:Prop}{q:A->Prop}(h:p/\∃a,q a)(k:p->∀a,q a->G):G:=o_e h.2 (k h.1)
theorem o_ea{p q:A->Prop}(h:∃a,p a/\q a)(k:∀a,p a->q a->G):G:=h.elim λx h=>o_a h (k x)
theorem o_ee{p:A->B->Prop}(h:∃a b,p a b)(k:∀a b,p a b->G):G:=h.elim λx h=>o_e h (k x)
theorem o_aaa{p q r s:Prop}(h:p/\q/\r/\s)(k:p->q->r->s->G):G:=o_aa h.2 (k h.1)
theorem o_aae{p q:Prop}{r:A->Prop}(h:p/\q/\∃a,r a)(k:p->q->∀a,r a->G):G:=o_ae h.2 (k h.1)
theorem o_aea{p:Prop}{q r:A->Prop}(h:p/\∃a,q a/\r a)(k:p->∀a,q a->r a->G):G:=o_ea h.2 (k h.1)
theorem o_aee{p:Prop}{q:A->B->Prop}(h:p/\∃a b,q a b)(k:p->∀a b,q a b->G):G:=o_ee h.2 (k h.1)
theorem o_eaa{p q r:A->Prop}(h:∃a,p a/\q a/\r a)(k:∀a,p a->q a->r a->G):G:=h.elim λx h=>o_aa h (k x)
theorem o_eea{p q:A->B->Prop}(h:∃a b,p a b/\q a b)(k:∀a b,p a b->q a b->G):G:=h.elim λx h=>o_ea h (k x)
theorem o_eee{p:A->B->C->Prop}(h:∃a b c,p a b c)(k:∀a b c,p a b c->G):G:=h.elim λx h=>o_ee h (k x)
theorem o_aaaa{p q r s t:Prop}(h:p/\q/\r/\s/\t)(k:p->q->r->s->t->G):G:=o_aaa h.2 (k h.1)
theorem o_aaae{p q r:Prop}{s:A->Prop}(h:p/\q/\r/\∃a,s a)(k:p->q->r->∀a,s a->G):G:=o_aae h.2 (k h.1)
theorem o_aaea{p q:Prop}{r s:A->Prop}(h:p/\q/\∃a,r a/\s a)(k:p->q->∀a,r a->s a->G):G:=o_aea h.2 (k h.1)
theorem o_aaee{p q:Prop}{r:A->B->Prop}(h:p/\q/\∃a b,r a b)(k:p->q->∀a b,r a b->G):G:=o_aee h.2 (k h.1)
theorem o_aeaa{p:Prop}{q r s:A->Prop}(h:p/\∃a,q a/\r a/\s a)(k:p->∀a,q a->r a->s a->G):G:=o_eaa h.2 (k h.1)
theorem o_aeea{p:Prop}{q r:A->B->Prop}(h:p/\∃a b,q a b/\r a b)(k:p->∀a b,q a b->r a b->G):G:=o_eea h.2 (k h.1)
theorem o_aeee{p:Prop}{q:A->B->C->Prop}(h:p/\∃a b c,q a b c)(k:p->∀a b c,q a b c->G):G:=o_eee h.2 (k h.1)
theorem o_eaaa{p q r s:A->Prop}(h:∃a,p a/\q a/\r a/\s a)(k:∀a,p a->q a->r a->s a->G):G:=h.elim λx h=>o_aaa h (k x)
theorem o_eaae{p q:A->Prop}{r:A->B->Prop}(h:∃a,p a/\q a/\∃b,r a b)(k:∀a,p a->q a->∀b,r a b->G):G:=h.elim λx h=>o_aae h (k x)
theorem o_eaea{p:A->Prop}{q r:A->B->Prop}(h:∃a,p a/\∃b,q a b/\r a b)(k:∀a,p a->∀b,q a b->r a b->G):G:=h.elim λx h=>o_aea h (k x)
theorem o_eeaa{p q r:A->B->Prop}(h:∃a b,p a b/\q a b/\r a b)(k:∀a b,p a b->q a b->r a b->G):G:=h.elim λx h=>o_eaa h (k x)
theorem o_eeea{p q:A->B->C->Prop}(h:∃a b c,p a b c/\q a b c)(k:∀a b c,p a b c->q a b c->G):G:=h.elim λx h=>o_eea h (k x)
theorem o_eeee{p:A->B->C->D->Prop}(h:∃a b c d,p a b c d)(k:∀a b c d,p a b c d->G):G:=h.elim λx h=>o_eee h (k x)
theorem o_aaaaa{p q r s t u:Prop}(h:p/\q/\r/\s/\t/\u)(k:p->q->r->s->t->u->G):G:=o_aaaa h.2 (k h.1)
theorem o_aaaae{p q r s:Prop}{t:A->Prop}(h:p/\q/\r/\s/\∃a,t a)(k:p->q->r->s->∀a,t a->G):G:=o_aaae h.2 (k h.1)
theorem o_aaeaa{p q:Prop}{r s t:A->Prop}(h:p/\q/\∃a,r a/\s a/\t a)(k:p->q->∀a,r a->s a->t a->G):G:=o_aeaa h.2 (k h.1)
theorem o_aaeea{p q:Prop}{r s:A->B->Prop}(h:p/\q/\∃a b,r a b/\s a b)(k:p->q->∀a b,r a b->s a b->G):G:=o_aeea h.2 (k h.1)
theorem o_aeaaa{p:Prop}{q r s t:A->Prop}(h:p/\∃a,q a/\r a/\s a/\t a)(k:p->∀a,q a->r a->s a->t a->G):G:=o_eaaa h.2 (k h.1)
theorem o_aeeaa{p:Prop}{q r s:A->B->Prop}(h:p/\∃a b,q a b/\r a b/\s a b)(k:p->∀a b,q a b->r a b->s a b->G):G:=o_eeaa h.2 (k h.1)
theorem o_aeeee{p:Prop}{q:A->B->C->D->Prop}(h:p/\∃a b c d,q a b c d)(k:p->∀a b c d,q a b c d->G):G:=o_eeee h.2 (k h.1)
theorem o_eaaaa{p q r s t:A->Prop}(h:∃a,p a/\q a/\r a/\s a/\t a)(k:∀a,p a->q a->r a->s a->t a->G):G:=h.elim λx h=>o_aaaa h (k x)
theorem o_eaaee{p q:A->Prop}{r:A->B->C->Prop}(h:∃a,p a/\q a/\∃b c,r a b c)(k:∀a,p a->q a->∀b c,r a b c->G):G:=h.elim λx h=>o_aaee h (k x)
theorem o_eaeaa{p:A->Prop}{q r s:A->B->Prop}(h:∃a,p a/\∃b,q a b/\r a b/\s a b)(k:∀a,p a->∀b,q a b->r a b->s a b->G):G:=h.elim λx h=>o_aeaa h (k x)
theorem o_eaeea{p:A->Prop}{q r:A->B->C->Prop}(h:∃a,p a/\∃b c,q a b c/\r a b c)(k:∀a,p a->∀b c,q a b c->r a b c->G):G:=h.elim λx h=>o_aeea h (k x)
theorem o_eaeee{p:A->Prop}{q:A->B->C->D->Prop}(h:∃a,p a/\∃b c d,q a b c d)(k:∀a,p a->∀b c d,q a b c d->G):G:=h.elim λx h=>o_aeee h (k x)
theorem o_eeaaa{p q r s:A->B->Prop}(h:∃a b,p a b/\q a b/\r a b/\s a b)(k:∀a b,p a b->q a b->r a b->s a b->G):G:=h.elim λx h=>o_eaaa h (k x)
theorem o_eeaae{p q:A->B->Prop}{r:A->B->C->Prop}(h:∃a b,p a b/\q a b/\∃c,r a b c)(k:∀a b,p a b->q a b->∀c,r a b c->G):G:=h.elim λx h=>o_eaae h (k x)
theorem o_eeaea{p:A->B->Prop}{q r:A->B->C->Prop}(h:∃a b,p a b/\∃c,q a b c/\r a b c)(k:∀a b,p a b->∀c,q a b c->r a b c->G):G:=h.elim λx h=>o_eaea h (k x)
theorem o_eeeaa{p q r:A->B->C->Prop}(h:∃a b c,p a b c/\q a b c/\r a b c)(k:∀a b c,p a b c->q a b c->r a b c->G):G:=h.elim λx h=>o_eeaa h (k x)
theorem o_eeeea{p q:A->B->C->D->Prop}(h:∃a b c d,p a b c d/\q a b c d)(k:∀a b c d,p a b c d->q a b c d->G):G:=h.elim λx h=>o_eeea h (k x)
theorem o_eeeee{p:A->B->C->D->E->Prop}(h:∃a b c d e,p a b c d e)(k:∀a b c d e,p a b c d e->G):G:=h.elim λx h=>o_eeee h (k x)
theorem o_aaaaaa{p q r s t u v:Prop}(h:p/\q/\r/\s/\t/\u/\v)(k:p->q->r->s->t->u->v->G):G:=o_aaaaa h.2 (k h.1)
theorem o_aaaeea{p q r:Prop}{s t:A->B->Prop}(h:p/\q/\r/\∃a b,s a b/\t a b)(k:p->q->r->∀a b,s a b->t a b->G):G:=o_aaeea h.2 (k h.1)
theorem o_aeeaaa{p:Prop}{q r s t:A->B->Prop}(h:p/\∃a b,q a b/\r a b/\s a b/\t a b)(k:p->∀a b,q a b->r a b->s a b->t a b->G):G:=o_eeaaa h.2 (k h.1)
theorem o_aeeaae{p:Prop}{q r:A->B->Prop}{s:A->B->C->Prop}(h:p/\∃a b,q a b/\r a b/\∃c,s a b c)(k:p->∀a b,q a b->r a b->∀c,s a b c->G):G:=o_eeaae h.2 (k h.1)
theorem o_aeeeee{p:Prop}{q:A->B->C->D->E->Prop}(h:p/\∃a b c d e,q a b c d e)(k:p->∀a b c d e,q a b c d e->G):G:=o_eeeee h.2 (k h.1)
theorem o_eaaaaa{p q r s t u:A->Prop}(h:∃a,p a/\q a/\r a/\s a/\t a/\u a)(k:∀a,p a->q a->r a->s a->t a->u a->G):G:=h.elim λx h=>o_aaaaa h (k x)
theorem o_eaaeaa{p q:A->Prop}{r s t:A->B->Prop}(h:∃a,p a/\q a/\∃b,r a b/\s a b/\t a b)(k:∀a,p a->q a->∀b,r a b->s a b->t a b->G):G:=h.elim λx h=>o_aaeaa h (k x)
theorem o_eaeeee{p:A->Prop}{q:A->B->C->D->E->Prop}(h:∃a,p a/\∃b c d e,q a b c d e)(k:∀a,p a->∀b c d e,q a b c d e->G):G:=h.elim λx h=>o_aeeee h (k x)
theorem o_eeaaaa{p q r s t:A->B->Prop}(h:∃a b,p a b/\q a b/\r a b/\s a b/\t a b)(k:∀a b,p a b->q a b->r a b->s a b->t a b->G):G:=h.elim λx h=>o_eaaaa h (k x)
theorem o_eeaaee{p q:A->B->Prop}{r:A->B->C->D->Prop}(h:∃a b,p a b/\q a b/\∃c d,r a b c d)(k:∀a b,p a b->q a b->∀c d,r a b c d->G):G:=h.elim λx h=>o_eaaee h (k x)
theorem o_eeaeaa{p:A->B->Prop}{q r s:A->B->C->Prop}(h:∃a b,p a b/\∃c,q a b c/\r a b c/\s a b c)(k:∀a b,p a b->∀c,q a b c->r a b c->s a b c->G):G:=h.elim λx h=>o_eaeaa h (k x)
theorem o_eeaeea{p:A->B->Prop}{q r:A->B->C->D->Prop}(h:∃a b,p a b/\∃c d,q a b c d/\r a b c d)(k:∀a b,p a b->∀c d,q a b c d->r a b c d->G):G:=h.elim λx h=>o_eaeea h (k x)
theorem o_eeaeee{p:A->B->Prop}{q:A->B->C->D->E->Prop}(h:∃a b,p a b/\∃c d e,q a b c d e)(k:∀a b,p a b->∀c d e,q a b c d e->G):G:=h.elim λx h=>o_eaeee h (k x)
theorem o_eeeaaa{p q r s:A->B->C->Prop}(h:∃a b c,p a b c/\q a b c/\r a b c/\s a b c)(k:∀a b c,p a b c->q a b c->r a b c->s a b c->G):G:=h.elim λx h=>o_eeaaa h (k x)
theorem o_eeeeaa{p q r:A->B->C->D->Prop}(h:∃a b c d,p a b c d/\q a b c d/\r a b c d)(k:∀a b c d,p a b c d->q a b c d->r a b c d->G):G:=h.elim λx h=>o_eeeaa h (k x)
theorem o_eeeeea{p q:A->B->C->D->E->Prop}(h:∃a b c d e,p a b c d e/\q a b c d e)(k:∀a b c d e,p a b c d e->q a b c d e->G):G:=h.elim λx h=>o_eeeea h (k x)
theorem o_eeeeee{p:A->B->C->D->E->F->Prop}(h:∃a b c d e f,p a b c d e f)(k:∀a b c d e f,p a b c d e f->G):G:=h.elim λx h=>o_eeeee h (k x)
theorem r_a{p q:Prop}(k:p->q->G)(h:p/\q):G:=o_a h k
theorem r_e{p:A->Prop}(k:∀a,p a->G)(h:∃a,p a):G:=o_e h k
theorem r_aa{p q r:Prop}(k:p->q->r->G)(h:p/\q/\r):G:=o_aa h k
theorem r_ae{p:Prop}{q:A->Prop}(k:p->∀a,q a->G)(h:p/\∃a,q a):G:=o_ae h k
theorem r_ea{p q:A->Prop}(k:∀a,p a->q a->G)(h:∃a,p a/\q a):G:=o_ea h k
theorem r_aaa{p q r s:Prop}(k:p->q->r->s->G)(h:p/\q/\r/\s):G:=o_aaa h k
theorem r_aae{p q:Prop}{r:A->Prop}(k:p->q->∀a,r a->G)(h:p/\q/\∃a,r a):G:=o_aae h k
theorem r_aee{p:Prop}{q:A->B->Prop}(k:p->∀a b,q a b->G)(h:p/\∃a b,q a b):G:=o_aee h k
theorem r_eaa{p q r:A->Prop}(k:∀a,p a->q a->r a->G)(h:∃a,p a/\q a/\r a):G:=o_eaa h k
theorem r_aaaa{p q r s t:Prop}(k:p->q->r->s->t->G)(h:p/\q/\r/\s/\t):G:=o_aaaa h k
theorem r_aaee{p q:Prop}{r:A->B->Prop}(k:p->q->∀a b,r a b->G)(h:p/\q/\∃a b,r a b):G:=o_aaee h k
theorem r_aeee{p:Prop}{q:A->B->C->Prop}(k:p->∀a b c,q a b c->G)(h:p/\∃a b c,q a b c):G:=o_aeee h k
theorem r_eaae{p q:A->Prop}{r:A->B->Prop}(k:∀a,p a->q a->∀b,r a b->G)(h:∃a,p a/\q a/\∃b,r a b):G:=o_eaae h k
theorem r_eaea{p:A->Prop}{q r:A->B->Prop}(k:∀a,p a->∀b,q a b->r a b->G)(h:∃a,p a/\∃b,q a b/\r a b):G:=o_eaea h k
theorem r_eeaa{p q r:A->B->Prop}(k:∀a b,p a b->q a b->r a b->G)(h:∃a b,p a b/\q a b/\r a b):G:=o_eeaa h k
theorem r_eeea{p q:A->B->C->Prop}(k:∀a b c,p a b c->q a b c->G)(h:∃a b c,p a b c/\q a b c):G:=o_eeea h k
theorem r_aaaaa{p q r s t u:Prop}(k:p->q->r->s->t->u->G)(h:p/\q/\r/\s/\t/\u):G:=o_aaaaa h k
theorem r_aaaae{p q r s:Prop}{t:A->Prop}(k:p->q->r->s->∀a,t a->G)(h:p/\q/\r/\s/\∃a,t a):G:=o_aaaae h k
theorem r_eaaaa{p q r s t:A->Prop}(k:∀a,p a->q a->r a->s a->t a->G)(h:∃a,p a/\q a/\r a/\s a/\t a):G:=o_eaaaa h k
theorem r_eeeea{p q:A->B->C->D->Prop}(k:∀a b c d,p a b c d->q a b c d->G)(h:∃a b c d,p a b c d/\q a b c d):G:=o_eeeea h k
theorem r_aaaaaa{p q r s t u v:Prop}(k:p->q->r->s->t->u->v->G)(h:p/\q/\r/\s/\t/\u/\v):G:=o_aaaaaa h k
theorem r_aeeaaa{p:Prop}{q r s t:A->B->Prop}(k:p->∀a b,q a b->r a b->s a b->t a b->G)(h:p/\∃a b,q a b/\r a b/\s a b/\t a b):G:=o_aeeaaa h k
theorem r_aeeaae{p:Prop}{q r:A->B->Prop}{s:A->B->C->Prop}(k:p->∀a b,q a b->r a b->∀c,s a b c->G)(h:p/\∃a b,q a b/\r a b/\∃c,s a b c):G:=o_aeeaae h k
theorem r_aeeeee{p:Prop}{q:A->B->C->D->E->Prop}(k:p->∀a b c d e,q a b c d e->G)(h:p/\∃a b c d e,q a b c d e):G:=o_aeeeee h k
theorem r_eaaaaa{p q r s t u:A->Prop}(k:∀a,p a->q a->r a->s a->t a->u a->G)(h:∃a,p a/\q a/\r a/\s a/\t a/\u a):G:=o_eaaaaa h k
theorem r_eeaaaa{p q r s t:A->B->Prop}(k:∀a b,p a b->q a b->r a b->s a b->t a b->G)(h:∃a b,p a b/\q a b/\r a b/\s a b/\t a b):G:=o_eeaaaa h k
theorem r_eeeaaa{p q r s:A->B->C->Prop}(k:∀a b c,p a b c->q a b c->r a b c->s a b c->G)(h:∃a b c,p a b c/\q a b c/\r a b c/\s a b c):G:=o_eeeaaa h k
theorem r_eeeeaa{p q r:A->B->C->D->Prop}(k:∀a b c d,p a b c d->q a b c d->r a b c d->G)(h:∃a b c d,p a b c d/\q a b c d/\r a b c d):G:=o_eeeeaa h k
theorem r_eeeeea{p q:A->B->C->D->E->Prop}(k:∀a b c d e,p a b c d e->q a b c d e->G)(h:∃a b c d e,p a b c d e/\q a b c d e):G:=o_eeeeea h k
theorem r_eeeeee{p:A->B->C->D->E->F->Prop}(k:∀a b c d e f,p a b c d e f->G)(h:∃a b c d e f,p a b c d e f):G:=o_eeeeee h k
theorem bE{p q:Prop}(h0:p)(h1:q):p/\q:=⟨h0,h1⟩
theorem i_e{p:A->Prop}(a:A)(h0:p a):∃a,p a:=⟨a,h0⟩
theorem bT{p q r:Prop}(h0:p)(h1:q)(h2:r):p/\q/\r:=⟨h0,h1,h2⟩
theorem ke{p:Prop}{q:A->Prop}(h0:p)(a:A)(h1:q a):p/\∃a,q a:=⟨h0,a,h1⟩
theorem ae{p q:A->Prop}(a:A)(h0:p a)(h1:q a):∃a,p a/\q a:=⟨a,h0,h1⟩
theorem cK{p:A->B->Prop}(a:A)(b:B)(h0:p a b):∃a b,p a b:=⟨a,b,h0⟩
theorem bY{p q r s:Prop}(h0:p)(h1:q)(h2:r)(h3:s):p/\q/\r/\s:=⟨h0,h1,h2,h3⟩
theorem iP{p q:Prop}{r:A->Prop}(h0:p)(h1:q)(a:A)(h2:r a):p/\q/\∃a,r a:=⟨h0,h1,a,h2⟩
theorem jv{p:Prop}{q r:A->Prop}(h0:p)(a:A)(h1:q a)(h2:r a):p/\∃a,q a/\r a:=⟨h0,a,h1,h2⟩
theorem nG{p:Prop}{q:A->B->Prop}(h0:p)(a:A)(b:B)(h1:q a b):p/\∃a b,q a b:=⟨h0,a,b,h1⟩
theorem aI{p q r:A->Prop}(a:A)(h0:p a)(h1:q a)(h2:r a):∃a,p a/\q a/\r a:=⟨a,h0,h1,h2⟩
theorem nI{p:A->Prop}{q:A->B->Prop}(a:A)(h0:p a)(b:B)(h1:q a b):∃a,p a/\∃b,q a b:=⟨a,h0,b,h1⟩
theorem bR{p q:A->B->Prop}(a:A)(b:B)(h0:p a b)(h1:q a b):∃a b,p a b/\q a b:=⟨a,b,h0,h1⟩
theorem nK{p:A->B->C->Prop}(a:A)(b:B)(c:C)(h0:p a b c):∃a b c,p a b c:=⟨a,b,c,h0⟩
theorem gM{p q r s t:Prop}(h0:p)(h1:q)(h2:r)(h3:s)(h4:t):p/\q/\r/\s/\t:=⟨h0,h1,h2,h3,h4⟩
theorem fu{p q:Prop}{r s:A->Prop}(h0:p)(h1:q)(a:A)(h2:r a)(h3:s a):p/\q/\∃a,r a/\s a:=⟨h0,h1,a,h2,h3⟩
theorem aij{p q:Prop}{r:A->B->Prop}(h0:p)(h1:q)(a:A)(b:B)(h2:r a b):p/\q/\∃a b,r a b:=⟨h0,h1,a,b,h2⟩
theorem nH{p:Prop}{q:A->B->C->Prop}(h0:p)(a:A)(b:B)(c:C)(h1:q a b c):p/\∃a b c,q a b c:=⟨h0,a,b,c,h1⟩
theorem cY{p q r s:A->Prop}(a:A)(h0:p a)(h1:q a)(h2:r a)(h3:s a):∃a,p a/\q a/\r a/\s a:=⟨a,h0,h1,h2,h3⟩
theorem lY{p q:A->Prop}{r:A->B->Prop}(a:A)(h0:p a)(h1:q a)(b:B)(h2:r a b):∃a,p a/\q a/\∃b,r a b:=⟨a,h0,h1,b,h2⟩
theorem ax{p q r:A->B->Prop}(a:A)(b:B)(h0:p a b)(h1:q a b)(h2:r a b):∃a b,p a b/\q a b/\r a b:=⟨a,b,h0,h1,h2⟩
theorem gc{p q:A->B->C->Prop}(a:A)(b:B)(c:C)(h0:p a b c)(h1:q a b c):∃a b c,p a b c/\q a b c:=⟨a,b,c,h0,h1⟩
theorem iQ{p:A->B->C->D->Prop}(a:A)(b:B)(c:C)(d:D)(h0:p a b c d):∃a b c d,p a b c d:=⟨a,b,c,d,h0⟩
theorem gN{p q r s t u:Prop}(h0:p)(h1:q)(h2:r)(h3:s)(h4:t)(h5:u):p/\q/\r/\s/\t/\u:=⟨h0,h1,h2,h3,h4,h5⟩
theorem aik{p q:Prop}{r s:A->B->Prop}(h0:p)(h1:q)(a:A)(b:B)(h2:r a b)(h3:s a b):p/\q/\∃a b,r a b/\s a b:=⟨h0,h1,a,b,h2,h3⟩
theorem acb{p:Prop}{q r s t:A->Prop}(h0:p)(a:A)(h1:q a)(h2:r a)(h3:s a)(h4:t a):p/\∃a,q a/\r a/\s a/\t a:=⟨h0,a,h1,h2,h3,h4⟩
theorem ail{p:Prop}{q r:A->Prop}{s:A->B->Prop}(h0:p)(a:A)(h1:q a)(h2:r a)(b:B)(h3:s a b):p/\∃a,q a/\r a/\∃b,s a b:=⟨h0,a,h1,h2,b,h3⟩
theorem jw{p:Prop}{q r s:A->B->Prop}(h0:p)(a:A)(b:B)(h1:q a b)(h2:r a b)(h3:s a b):p/\∃a b,q a b/\r a b/\s a b:=⟨h0,a,b,h1,h2,h3⟩
theorem kg{p q r s t:A->Prop}(a:A)(h0:p a)(h1:q a)(h2:r a)(h3:s a)(h4:t a):∃a,p a/\q a/\r a/\s a/\t a:=⟨a,h0,h1,h2,h3,h4⟩
theorem jx{p q r s:A->B->Prop}(a:A)(b:B)(h0:p a b)(h1:q a b)(h2:r a b)(h3:s a b):∃a b,p a b/\q a b/\r a b/\s a b:=⟨a,b,h0,h1,h2,h3⟩
theorem aiq{p:A->B->Prop}{q r:A->B->C->Prop}(a:A)(b:B)(h0:p a b)(c:C)(h1:q a b c)(h2:r a b c):∃a b,p a b/\∃c,q a b c/\r a b c:=⟨a,b,h0,c,h1,h2⟩
theorem bZ{p q r:A->B->C->Prop}(a:A)(b:B)(c:C)(h0:p a b c)(h1:q a b c)(h2:r a b c):∃a b c,p a b c/\q a b c/\r a b c:=⟨a,b,c,h0,h1,h2⟩
theorem nN{p q:A->B->C->D->Prop}(a:A)(b:B)(c:C)(d:D)(h0:p a b c d)(h1:q a b c d):∃a b c d,p a b c d/\q a b c d:=⟨a,b,c,d,h0,h1⟩
theorem dy{p q r s t u v:Prop}(h0:p)(h1:q)(h2:r)(h3:s)(h4:t)(h5:u)(h6:v):p/\q/\r/\s/\t/\u/\v:=⟨h0,h1,h2,h3,h4,h5,h6⟩
theorem aih{p q r s t:Prop}{u:A->Prop}(h0:p)(h1:q)(h2:r)(h3:s)(h4:t)(a:A)(h5:u a):p/\q/\r/\s/\t/\∃a,u a:=⟨h0,h1,h2,h3,h4,a,h5⟩
theorem aii{p q r:Prop}{s t:A->B->Prop}(h0:p)(h1:q)(h2:r)(a:A)(b:B)(h3:s a b)(h4:t a b):p/\q/\r/\∃a b,s a b/\t a b:=⟨h0,h1,h2,a,b,h3,h4⟩
theorem nF{p q:Prop}{r s:A->B->C->Prop}(h0:p)(h1:q)(a:A)(b:B)(c:C)(h2:r a b c)(h3:s a b c):p/\q/\∃a b c,r a b c/\s a b c:=⟨h0,h1,a,b,c,h2,h3⟩
theorem rf{p:Prop}{q:A->Prop}{r s:A->B->C->Prop}(h0:p)(a:A)(h1:q a)(b:B)(c:C)(h2:r a b c)(h3:s a b c):p/\∃a,q a/\∃b c,r a b c/\s a b c:=⟨h0,a,h1,b,c,h2,h3⟩
theorem eH{p:Prop}{q r s t:A->B->Prop}(h0:p)(a:A)(b:B)(h1:q a b)(h2:r a b)(h3:s a b)(h4:t a b):p/\∃a b,q a b/\r a b/\s a b/\t a b:=⟨h0,a,b,h1,h2,h3,h4⟩
theorem gb{p q r s t u:A->Prop}(a:A)(h0:p a)(h1:q a)(h2:r a)(h3:s a)(h4:t a)(h5:u a):∃a,p a/\q a/\r a/\s a/\t a/\u a:=⟨a,h0,h1,h2,h3,h4,h5⟩
theorem ain{p q:A->Prop}{r s t:A->B->Prop}(a:A)(h0:p a)(h1:q a)(b:B)(h2:r a b)(h3:s a b)(h4:t a b):∃a,p a/\q a/\∃b,r a b/\s a b/\t a b:=⟨a,h0,h1,b,h2,h3,h4⟩
theorem nJ{p:A->Prop}{q r s:A->B->C->Prop}(a:A)(h0:p a)(b:B)(c:C)(h1:q a b c)(h2:r a b c)(h3:s a b c):∃a,p a/\∃b c,q a b c/\r a b c/\s a b c:=⟨a,h0,b,c,h1,h2,h3⟩
theorem acd{p:A->Prop}{q:A->B->C->D->E->Prop}(a:A)(h0:p a)(b:B)(c:C)(d:D)(e:E)(h1:q a b c d e):∃a,p a/\∃b c d e,q a b c d e:=⟨a,h0,b,c,d,e,h1⟩
theorem dT{p q r s t:A->B->Prop}(a:A)(b:B)(h0:p a b)(h1:q a b)(h2:r a b)(h3:s a b)(h4:t a b):∃a b,p a b/\q a b/\r a b/\s a b/\t a b:=⟨a,b,h0,h1,h2,h3,h4⟩
theorem aio{p q r:A->B->Prop}{s:A->B->C->Prop}(a:A)(b:B)(h0:p a b)(h1:q a b)(h2:r a b)(c:C)(h3:s a b c):∃a b,p a b/\q a b/\r a b/\∃c,s a b c:=⟨a,b,h0,h1,h2,c,h3⟩
theorem aip{p q:A->B->Prop}{r:A->B->C->D->Prop}(a:A)(b:B)(h0:p a b)(h1:q a b)(c:C)(d:D)(h2:r a b c d):∃a b,p a b/\q a b/\∃c d,r a b c d:=⟨a,b,h0,h1,c,d,h2⟩
theorem air{p:A->B->Prop}{q:A->B->C->D->E->Prop}(a:A)(b:B)(h0:p a b)(c:C)(d:D)(e:E)(h1:q a b c d e):∃a b,p a b/\∃c d e,q a b c d e:=⟨a,b,h0,c,d,e,h1⟩
theorem ce{p q r s:A->B->C->Prop}(a:A)(b:B)(c:C)(h0:p a b c)(h1:q a b c)(h2:r a b c)(h3:s a b c):∃a b c,p a b c/\q a b c/\r a b c/\s a b c:=⟨a,b,c,h0,h1,h2,h3⟩
theorem ef{p q r:A->B->C->D->Prop}(a:A)(b:B)(c:C)(d:D)(h0:p a b c d)(h1:q a b c d)(h2:r a b c d):∃a b c d,p a b c d/\q a b c d/\r a b c d:=⟨a,b,c,d,h0,h1,h2⟩
theorem iR{p q:A->B->C->D->E->Prop}(a:A)(b:B)(c:C)(d:D)(e:E)(h0:p a b c d e)(h1:q a b c d e):∃a b c d e,p a b c d e/\q a b c d e:=⟨a,b,c,d,e,h0,h1⟩
theorem dU{p:A->B->C->D->E->F->Prop}(a:A)(b:B)(c:C)(d:D)(e:E)(f:F)(h0:p a b c d e f):∃a b c d e f,p a b c d e f:=⟨a,b,c,d,e,f,h0⟩
end
theorem ap1{a b c:Nat}(h:a<b+c)(k:0<c):a-b<c:=(LS a b).elim (λh=>by rw[GM (CU h)];exact k) λg=>(Gh g).mpr h
theorem aee(k:Nat):(k+1)%2=1↔k%2=0:=by rcases LV k with h |h<;>simp[Ly,h]
theorem aef(k:Nat):(k+1)%2=0↔k%2=1:=by rcases LV k with h |h<;>simp[Ly,h]
variable {a b c d f g i j k l:Nat}
theorem om0(h0:¬a<=63):63<(a:Int):=(@C8 63 a).mpr (Fd h0)
theorem om1(h0:a<=63):a<=16777216:=by lia
theorem om2(h0:a=4):a<=b+4:=Nat.le_trans (C5 h0) (EU 4 b)
theorem om6(h0:0<a):b*(c+1)+(c+1)=c+1-1+b*(c+1)+1:=CN (·+1) (Ev _ c)
theorem ake(h0:a<b)(h1:c*b+b<=d*b):f*d*b+a+c*b<f*d*b+a+d*b:=Fs (Nat.lt_of_lt_of_le (Ho (Nat.lt_of_le_of_lt (Ec a) h0)) h1) _
theorem akj:a*b*c+d+f*c=a*b*c+f*c+d:=Jt (a*b*c) d (f*c)
theorem akp(h0:¬a<b):b<=a:=Dq h0
theorem akv(h0:0<a)(h1:a<1000000000):0<(a:Int):=GY.mpr h0
theorem akA(h0:0<a)(h1:a<1000000000):(a:Int)<1099511627776:=(@C8 a 1099511627776).mpr (CT h1 (by decide))
theorem akH(h0:a<=100)(h1:0<a):a<=DH ((a:Int)-0):=Nat.le_refl a
theorem mj(h0:a<=100):a<1000000000:=by lia
theorem ml(h0:a<=100):a<=DH ((a:Int)-0):=by rw[KL];exact Nat.le_refl _
theorem alo(h0:a<=100):a<18446744073709551616:=by lia
theorem adm(h0:a<=100)(h1:0<a):a<18446744073709551616:=by lia
theorem alT(h0:0<a/\a<=4):a<=100:=by lia
theorem al0(h0:a<=100):a<100000:=by lia
theorem al7:a+(b+(c+d))=a+b+c+d:=by lia
theorem al9(h0:1<=a/\a<=100)(h1:1<=b/\b<=100):(1<=(a:Int)/\(a:Int)<=65535)/\1<=(b:Int)/\(b:Int)<=65535:=⟨⟨(@DV 1 a).mpr h0.1,(@DV a 65535).mpr (Nat.le_trans h0.2 (by decide))⟩,(@DV 1 b).mpr h1.1,(@DV b 65535).mpr (Nat.le_trans h1.2 (by decide))⟩
theorem amf:2+(a+(b+1))=2+a+1+b:=by lia
theorem adn(h0:1<=a/\a<=100):a<=100:=by lia
theorem adq(h0:1<=a/\a<=100):a<100000:=by lia
theorem amP(h0:a=b*c*d*f)(h1:g<1+a):2+(i+min g j)<2+i+1+a:=by rw[<-C3,C3 (2+i)];exact Fs (Nat.lt_of_le_of_lt (Gf ..) h1) _
theorem amX(h0:a<2)(h1:min 2 a=2):False:=Nat.not_le.mpr h0 (Nat.le_trans (C5 h1.symm) (D9 2 a))
theorem am0(h0:0<a)(h1:a<1000000000):(a:Int)<1073741824:=by lia
theorem anf(h0:a+1+1+1<=2):False:=by lia
theorem adx(h0:a<b):0<=(a:Int):=DU a
theorem ang(h0:a<=8):(a:Int)<9:=(@C8 a 9).mpr (Ew h0)
theorem anh(h0:¬a<=8):¬(a:Int)<9:=λh=>h0 (Eo ((@C8 a 9).mp h))
theorem ani(h0:a+b+c<=d):a<=d:=Nat.le_trans (Nat.le_trans (Nat.le_add_right a b) (Nat.le_add_right _ c)) h0
theorem anj(h0:a<b):c+a<c+b:=Fs h0 c
theorem ank(h0:a<b+c)(h1:d+b+c<=f)(h2:f<d+a):g+1<1:=CP (Nat.lt_of_le_of_lt h1 (CT h2 (Fs h0 d))) (C3 d b c▸CY _)
theorem anl(h0:a+1<1):b<c+d:=by lia
theorem anm(h0:a<b+c):d+a<d+b+c:=C3 d b c▸Fs h0 d
theorem ano(h0:a<b+c)(h1:d+b+c<=f)(h2:f<d+a):g+1<0:=CP (Nat.lt_of_le_of_lt h1 (CT h2 (Fs h0 d))) (C3 d b c▸CY _)
theorem anp(h0:a+1<0):b<c+d:=by lia
theorem anq(h0:¬a<b+c):d+b+c+(a-(b+c))=d+a:=by rw[C3 d,C3,Fc (Dq h0)]
theorem anr(h0:0<a)(h1:¬b<c+a):d+c<d+b:=Fs (Nat.lt_of_lt_of_le (Ho h0) (Dq h1)) d
theorem ans(h0:0<a)(h1:(a-1)%2=0):(a+1-1)%2=1:=by cases a with |zero=>cases h0 |succ k=>exact(aee k).2 h1
theorem ant(h0:0<a)(h1:(a-1)%2=1):(a+1-1)%2=0:=by cases a with |zero=>cases h0 |succ k=>exact(aef k).2 h1
theorem anu(h0:¬a<b+c)(h1:d+a<d+b+c):False:=h0 (LP (C3 d b c▸h1))
theorem anv(h0:(a+1)%2=1):(a+1-1)%2=0:=(aee a).1 h0
theorem anw(h0:(a+1)%2=0):(a+1-1)%2=1:=(aef a).1 h0
theorem anx:0<=-(1:Int)+(a+1:Int):=by rw[HV];exact Ed (DU a) (HW (IV (a:Int) 1).symm)
theorem anz:DH (-(1:Int)+(a+1:Int))=a:=by rw[HV];exact CN DH (IV (a:Int) 1)
theorem anA:(a:Int)<2↔a<2:=@C8 a 2
theorem anB(h0:a<1000)(h1:b=a)(h2:c<=a):c<=16777216:=by lia
theorem anC:a+b+(c+(d+f))=a+b+c+(d+f):=FC (C3 (a+b) c (d+f))
theorem anD:a+b+c+d=a+(b+c+d):=by lia
theorem anE(h0:a<=20)(h1:b<=16)(h2:c<=36*d):c+(b+a)<=36*(d+1):=(Dd h2 (Dd h1 h0):_<=36*d+36)
theorem anF(h0:a<=2*b)(h1:c<=2):c+a<=2*(b+1):=Ev a c▸(Dd h0 h1:_<=2*b+2)
theorem anG(h0:a<=10)(h1:b=a+1)(h2:c<b)(h3:d<f)(h4:g=i+min d f)(h5:i<=2*min c b)(h6:f<=2):g<=1000:=h4▸Nat.le_trans (Dd (Nat.le_trans h5 (Ea 2 (Nat.le_trans (D9 c b) (Nat.le_trans (C5 h1) (EK h0))))) (Nat.le_trans (D9 d f) h6)) (by decide)
theorem anH:a≠a+2:=by lia
theorem anI(h0:a<b):a≠b+2:=by lia
theorem ac3(h0:a<b):a≠b+1:=by lia
theorem akf(h0:a=b+1)(h1:c=d)(h2:d<=2*a):c<=2*(b+1):=by rw[h1,<-h0];exact h2
theorem akg(h0:1<=0/\0<=4):False:=by lia
theorem akh(h0:1<=a+1+1+1+1+1/\a+1+1+1+1+1<=4):False:=by lia
theorem aki(h0:a+(b+1)<=900):a+1+b<=900:=Nat.le_trans (C5 (Hs a b)) h0
theorem ac4(h0:a<=5):0+a<=900:=by lia
theorem rQ(h0:a+1+1+1+1<4):False:=by lia
theorem fA(h0:1<=a/\a<=3):a<=4:=by lia
theorem gT(h0:1<=a/\a<=3):a<=100:=by lia
theorem akk(h0:a<=5):a-b+min b a<=5:=by rw[LU,L2];exact h0
theorem ac5(h0:1<=a/\a<=4):0<a:=by lia
theorem akl(h0:a<=5/\0<a):a<1000000000:=by lia
theorem akm(h0:a<=5/\0<a)(h1:b<a):a-b+min b a<10000000:=by rw[LU,L2];exact Nat.lt_of_le_of_lt h0.1 (by decide)
theorem akn(h0:a<=b)(h1:b<c)(h2:c<=d):a<=d+f+g:=Nat.le_trans (Nat.le_trans h0 (Nat.le_trans (CU h1) h2)) (Nat.le_trans (Nat.le_add_right _ f) (Nat.le_add_right _ g))
theorem ako(h0:a<3):0<(a:Int)↔0<a:=@C8 0 a
theorem ac6(h0:a<=3):a<1000000000:=by lia
theorem ac7(h0:a<=3):a<=DH ((a:Int)-0):=Nat.le_refl a
theorem ac8(h0:a<=16):a<=1000:=by lia
theorem akq(h0:a<=3)(h1:b=a):b<=16777216:=by lia
theorem akr(h0:a=b)(h1:c=b)(h2:d<a):d<c:=by rw[h1,<-h0];exact h2
theorem aks(h0:a<=3)(h1:b=a)(h2:c=a):c<=16777216:=by lia
theorem akt(h0:a=b)(h1:c=b):c=a:=by lia
theorem aku(h0:a+1+1+1<3):False:=by lia
theorem ac9(h0:a<3):1<=1+a/\1+a<=3:=⟨Nat.le_add_right ..,Ev 1 a▸h0⟩
theorem akw(h0:1<=a/\a<=4):a<1000000000:=by lia
theorem akx:a<=DH ((a:Int)-0):=Nat.le_refl a
theorem aky:a≠a+1:=Nat.ne_add_one a
theorem akz(h0:a<1000)(h1:b=a)(h2:c=a):a<=16777216:=by lia
theorem rR(h0:a<=1000):0<=(a:Int):=DU a
theorem akB(h0:2<=a/\a<=16)(h1:(a:Int)<2):False:=El.mpr ((@DV 2 a).mpr h0.1) h1
theorem akC(h0:2<=a/\a<=16)(h1:16<(a:Int)):False:=El.mpr ((@DV a 16).mpr h0.2) h1
theorem akD(h0:a<1000):0<=(a:Int):=DU a
theorem akE(h0:1<=a/\a<=4)(h1:0=a):False:=by lia
theorem oq(h0:1<=a/\a<=3):1<=(a:Int):=by lia
theorem akF(h0:a<4):a<1000:=by lia
theorem akG(h0:a<256):0<=(a:Int):=DU a
theorem ada(h0:¬a<=8):8<(a:Int):=by lia
theorem akI(h0:a<10000):a<=16777216:=by lia
theorem akJ(h0:a<=65536)(h1:b<a):0<=(b:Int)/\(b:Int)<65536:=⟨DU _,(@C8 b 65536).mpr (Nat.lt_of_lt_of_le h1 h0)⟩
theorem adb(h0:1<=a/\a<=3):(a:Int)<=65535:=(@DV a 65535).mpr (Nat.le_trans h0.2 (by decide))
theorem ot(h0:a=b):¬a<b:=λh=>CP h0 (CV h)
theorem akK(h0:a<100000)(h1:b<a)(h2:a-b=c+1):c+1<100000:=h2▸Nat.lt_of_le_of_lt (DQ a b) h0
theorem akL(h0:a<b)(h1:b<c):c+2≠a:=C2 (Nat.lt_of_lt_of_le (CT h0 h1) (Nat.le_add_right c 2))
theorem akM:a+(a+(a+(a+(a+(a+(a+(a+a)))))))=9*a:=by lia
theorem akN(h0:a<=5):a<=16777216:=by lia
theorem akO(h0:0<a)(h1:a<1000):(a:Int)<1073741824:=(@C8 a 1073741824).mpr (CT h1 (by decide))
theorem akP(h0:0<a)(h1:a<1000):0<=(a:Int):=DU a
theorem akQ(h0:0<a)(h1:a<=36):a<1000000000:=by lia
theorem akR{x0:Nat}{y1:Int}(h0:(((x0:Nat):Int)=y1))(h1:((y1-(1:Int))=(((x0-(1:Nat)):Nat):Int))):((x0-(1:Nat))<x0):=by cases x0 with |zero=>subst h0;cases h1 |succ k=>exact D6 k
theorem ade(h0:a+1+1<2):False:=by lia
theorem akS(h0:a<b):min a b+(b-(a+1)+1)=b:=by rw[EJ (CU h0),<-Er,Jz (Ff h0),Fc (CU h0)]
theorem akT(h0:0<a/\a<=2):a<1000:=by lia
theorem akU(h0:0<a/\a<=2):a<18446744073709551616:=by lia
theorem akV(h0:0<a/\a<=2):a<=1000:=by lia
theorem akW(h0:8≠(a:Int)/\16≠(a:Int)):a≠8:=λe=>h0.1 (e▸rfl)
theorem akX(h0:8≠(a:Int)/\16≠(a:Int)):a≠16:=λe=>h0.2 (e▸rfl)
theorem rS(h0:a<1000)(h1:b=a)(h2:c=a):c<=16777216:=by lia
theorem akY(h0:0<a)(h1:a<1000):a<=16777216:=by lia
theorem akZ(h0:a<1000):a<=DH ((a:Int)-0):=by rw[KL];exact Nat.le_refl _
theorem ak0:a<=a+b+1:=by lia
theorem adf(h0:a<1000)(h1:b=a):b<=16777216:=by lia
theorem ak1(h0:a<1000):a<1000000000:=by lia
theorem ak2(h0:(a+1:Int)=(a:Int)):False:=by lia
theorem adg(h0:0<a)(h1:a<900):a<1000:=by lia
theorem fi(h0:1<=a/\a<=3):0<a:=by lia
theorem c5(h0:1<=a/\a<=3):a<1000:=by lia
theorem ak3:a<=a+b:=Nat.le_add_right a b
theorem ak4:a<=a+b+c:=by lia
theorem ak5:a<=a+b+c+d:=by lia
theorem ak6(h0:0<a):0<=-(1:Int)+(a:Int):=by lia
theorem ak7(h0:0<a):DH (-(1:Int)+(a:Int))=a-1:=by rw[HV];exact CN DH (GA h0).symm
theorem ak8{a:Int}(h0:0<=a/\a<=a-1):False:=by lia
theorem adh(h0:1<=a/\a<=3):a<1000000000:=by lia
theorem adi:0<=(a:Int):=DU a
theorem ak9(h0:a<=b):a<=b:=My.mp h0
theorem ala(h0:a<=b)(h1:b<=c):a<=c+d+f+g:=Nat.le_trans (Nat.le_trans h0 h1) (Nat.le_trans (Nat.le_add_right _ d) (Nat.le_trans (Nat.le_add_right _ f) (Nat.le_add_right _ g)))
theorem alb:0<(a+1:Int):=Int.ofNat_succ_pos a
theorem alc(h0:a+b+c<=d):¬d<a+b:=Ey.mpr (Nat.le_trans (Nat.le_add_right _ c) h0)
theorem ald(h0:a=b*c*d*f)(h1:g<2+i+1+a):g-2-i<1+a:=Er g 2 i▸ap1 (C3 (2+i) 1 a▸h1) (Nat.lt_of_lt_of_le Fe (Nat.le_add_right 1 a))
theorem ale(h0:a<100000)(h1:b=c*d*f*g)(h2:a=2+i+1+b):0<a:=h2▸Nat.lt_of_lt_of_le (FO (2+i)) (Nat.le_add_right _ b)
theorem alf(h0:a<100000)(h1:b=c*d*f*g)(h2:a=2+i+1+b)(h3:j<10)(h4:¬1<j):j<a:=h2▸Nat.lt_of_le_of_lt (Dq h4) (Nat.lt_of_lt_of_le (by decide:1<2) (Nat.le_trans (Nat.le_add_right 2 i) (Nat.le_trans (Nat.le_add_right _ 1) (Nat.le_add_right _ b))))
theorem alg(h0:a<10)(h1:¬1<a):¬1<(a:Int):=λh=>h1 ((@C8 1 a).mp h)
theorem alh(h0:a<15):2<=2+a/\2+a<=16:=⟨Nat.le_add_right ..,(C4 (Eo h0) 2:2+a<=2+14)⟩
theorem adj(h0:1<=a/\a<=4):a<1000:=by lia
theorem ali(h0:a<=b)(h1:b<100000):(a:Int)<1099511627776:=(@C8 a 1099511627776).mpr (CT (Nat.lt_of_le_of_lt h0 h1) (by decide))
theorem alj(h0:a<=b)(h1:c-d=b)(h2:d<=c):d+a<=c:=Nat.le_trans (C4 h0 d) (C5 (h1▸Fc h2))
theorem adk(h0:a-b<c+1)(h1:¬b=a)(h2:b<a):a-(b+1)<c:=Nat.lt_of_lt_of_le (Nat.sub_lt_sub_left h2 (D6 b)) (Eo h0)
theorem alk(h0:a-b=c)(h1:0<c):a=b+c/\b<=a:=have h:=CU (LQ (h0▸h1));⟨by rw[<-h0,Fc h],h⟩
theorem alm(h0:a=b+(c+(d+f))):b+(c+d)<=a:=h0▸C4 (C4 (Nat.le_add_right d f) c) b
theorem aln(h0:a=b+(c+(d+f))):a-(d+f)+d=b+(c+d):=by rw[h0,<-C3 c,<-C3 b,<-C3 b,C3 (b+c),GI]
theorem alp:a+(b+c)+(d+f)+g=a+(b+c+(d+f)+g):=by rw[C3 a,C3 a]
theorem alq:a+(b+(c+(d+(f+g))))=a+b+(c+d)+f+g:=by rw[C3 (a+b),C3 c,C3 (a+b),C3 a];rw[C3 c (d+f),C3 d]
theorem adl(h0:¬a<=b):b<=a:=GK h0
theorem alr(h0:0<a)(h1:¬b<=c)(h2:b-c<=d)(h3:¬b<c+d):b-(c+d)<f+a:=by rw[GM (L4.mp h2)];exact Nat.lt_of_lt_of_le h0 (EU ..)
theorem als(h0:¬a<=b)(h1:a-b<=c)(h2:¬a<b+c):¬d<a-(b+c):=GM (L4.mp h1)▸Eb d
theorem alu(h0:0<a)(h1:b-c-d<=f):b-(c+d)<f+a:=Er b c d▸Nat.lt_of_le_of_lt h1 (Ho h0)
theorem alv(h0:a-b-c<=d):¬d<a-(b+c):=Er a b c▸Ey.mpr h0
theorem alw(h0:¬a-b-c<=d)(h1:a-b-c-d<f):a-(b+c)<d+f:=Er a b c▸(Gh (Ft h0)).mp h1
theorem alx(h0:¬a-b-c<=d):d<a-(b+c):=Er a b c▸Fd h0
theorem aly(h0:0<a)(h1:¬b-c-d<=f)(h2:¬b-c-d-f<a):¬b-(c+d)<f+a:=Er b c d▸λh=>h2 ((Gh (Ft h1)).mpr h)
theorem alz:a-(b+c)-(d+f)=a-b-c-d-f:=by rw[<-Er,<-Er]
theorem alA(h0:a<=b)(h1:0<c):a+1<=d+c+(f+g)+b:=(Ev b (d+c+(f+g)))▸Dd h0 (Nat.le_trans h1 (Nat.le_trans (EU c d) (Nat.le_add_right ..)))
theorem alB(h0:a<b+c+d)(h1:¬a<=b)(h2:¬a-b<c):a-b-c<d:=(Gh (Dq h2)).mpr ((Gh (Ft h1)).mpr (C3 b c d▸h0))
theorem alC(h0:a<=9):a<=16777216:=by lia
theorem alD(h0:a<=9):¬9<(a:Int):=El.mpr ((@DV a 9).mpr h0)
theorem alE(h0:2<=a/\a<=16):¬a<2:=by lia
theorem alF{b:Int}(h0:2<=a/\a<=16)(h1:b=(a:Int)):0<=(a:Int):=DU a
theorem alG{b:Int}(h0:2<=a/\a<=16)(h1:b=(a:Int)):(a:Int)<=1000:=by lia
theorem alH{b:Int}(h0:2<=a/\a<=16)(h1:b=(a:Int)):2<=(a:Int):=(@DV 2 a).mpr h0.1
theorem alI{b:Int}(h0:2<=a/\a<=16)(h1:b=(a:Int)):(a:Int)<=16:=by lia
theorem alJ(h0:¬(2<=a/\a<=16))(h1:2<=a):¬(a:Int)<=16:=λh=>h0 ⟨h1,(@DV a 16).mp h⟩
theorem alK(h0:¬2<=a):¬2<=(a:Int):=λh=>h0 ((@DV 2 a).mp h)
theorem alL(h0:a<1000000000):(a:Int)<1099511627776:=(@C8 a 1099511627776).mpr (CT h0 (by decide))
theorem alM(h0:a<1000000000):-(2305843009213693952:Int)<=(a:Int):=Int.neg_ofNat_le_natCast 2305843009213693952 a
theorem alN(h0:a<1000000000):(a:Int)<2305843009213693952:=(@C8 a 2305843009213693952).mpr (CT h0 (by decide))
theorem alO:(a:Int)<(b:Int)+(c*d:Int)↔a<b+c*d:=@C8 a (b+c*d)
theorem alP(h0:a<100000)(h1:b<=a)(h2:a-b=c*1+d):b+c<1000000000:=CT (Nat.lt_of_le_of_lt (Nat.le_trans (C4 (Nat.le_trans (C5 (Jy c).symm) (Nat.le_add_right _ d)) b) (C5 (h2▸Fc h1))) h0) (by decide)
theorem alQ(h0:a<100000)(h1:b<=a)(h2:a-b=c*2+d):b+2*c<1000000000:=CT (Nat.lt_of_le_of_lt (Jx 2 c▸Nat.le_trans (C4 (Nat.le_add_right (c*2) d) b) (C5 (h2▸Fc h1))) h0) (by decide)
theorem alR:a<=DH ((b:Int)+2*(a:Int)-(b:Int)):=by rw[HV,IV];exact Nat.le_mul_of_pos_left a (by decide)
theorem alS(h0:a<b):(c:Int)+(a:Int)*2<(c:Int)+2*(b:Int):=Int.add_lt_add_left (KD 2 b▸Int.mul_lt_mul_of_pos_right (C8.mpr h0) (by decide)) _
theorem alU:(a/256:Int)*256+(a%256:Int)=(a:Int):=CN Int.ofNat (Nat.div_add_mod' a 256)
theorem alV:¬(a:Int)+(b:Int)*2<(a:Int)+2*(b:Int):=by lia
theorem alW(h0:a<100000)(h1:b<=a)(h2:a-b=c*2+d):c<=16777216:=Nat.le_trans (Nat.le_trans (Jv c (by decide:0<2)) (Nat.le_trans (Nat.le_add_right _ d) (h2▸DQ a b))) (Nat.le_trans (CU h0) (by decide))
theorem alX(h0:a<100000)(h1:b<=a)(h2:a-b=c*d+f)(h3:c<=c*d):c<1000000000:=CT (Nat.lt_of_le_of_lt (Nat.le_trans h3 (Nat.le_trans (Nat.le_add_right _ f) (h2▸DQ a b))) h0) (by decide)
theorem alY(h0:a<=b)(h1:b-a=c*d+f):¬b<a+c*d:=Ey.mpr (Nat.le_trans (C4 (Nat.le_add_right (c*d) f) a) (C5 (h1▸Fc h0)))
theorem alZ(h0:a+60*b+10*c+60<=9000):a+10<=9800:=Nat.le_trans (En (Nat.le_trans (Nat.le_trans (Nat.le_add_right a (60*b)) (Nat.le_add_right _ (10*c))) (Nat.le_trans (Nat.le_add_right _ 60) h0)) 10) (by decide)
theorem mn(h0:a+60*b+10*c+60<=9000):a+60*b<=8950:=Nat.le_trans (Nat.le_trans (Nat.le_add_right _ (10*c)) (It (show _+60<=8940+60 from h0))) (by decide)
theorem al1{a c:Int}:a+((b:Int)*c+1*c)=a+(b:Int)*c+c:=by rw[KJ,Int.add_assoc]
theorem al2{a:Int}:a-((b:Int)+1)=a-(b:Int)-1:=FC (Int.sub_sub a (↑b) 1)
theorem al3(h0:a+(b+1)<=c):a+1+b<=c:=Nat.le_trans (C5 (Hs a b)) h0
theorem al4:a+(b+1)=a+1+b:=FC (Hs a b)
theorem al5(h0:a=b):0+b<=a:=by lia
theorem al6(h0:a+60*b+10*(c+1)+60<=9000):a+60*b+10*c+60<=9000:=Nat.le_trans (En (C4 (Ea 10 (FL c)) _) 60) h0
theorem al8(h0:a=b+1)(h1:a<=b):False:=by lia
theorem ama(h0:a=b)(h1:a=c):c=b:=by lia
theorem amb(h0:a+(b+1)+2<=9800):a<9900:=Nat.lt_of_le_of_lt (Nat.le_trans (Nat.le_add_right a (b+1)) (Nat.le_trans (Nat.le_add_right _ 2) h0)) (by decide)
theorem amc(h0:a+(b+1)+2<=9800):a+1+b+2<=9800:=Nat.le_trans (C5 (CN (·+2) (Hs a b))) h0
theorem amd(h0:a+10<=9800):a+(0+3+1)+2<=9800:=Nat.le_trans (C4 (by decide:6<=10) a) h0
theorem ame(h0:a=b)(h1:c<a):c<b:=GL h1 h0
theorem amg(h0:a<=1000):a+1<=16777216+1:=by lia
theorem amh(h0:a=b+1):a≠b:=by lia
theorem ami(h0:a+1=b)(h1:c=b+1):c≠a:=h1▸h0▸C2 (EI (D6 a))
theorem amj(h0:a+1=b):a<b:=h0▸D6 a
theorem amk(h0:a+b<480):a+1<500:=Nat.lt_of_le_of_lt (EK (Nat.le_trans (Nat.le_add_right a b) (CU h0))) (by decide)
theorem ado:min a 2=0\/min a 2=1\/min a 2=2:=match a with |0=>.inl rfl |1=>.inr (.inl rfl) |n+2=>.inr (.inr (Fu (EU ..)))
theorem aml:min a 2<=2:=D9 a 2
theorem adp(h0:a+(b+1)<480):a+1+b<480:=by lia
theorem amm(h0:a+60*(b+1)<=8950):a+3+60*b+100<=9000:=by rw[Jt a 3];exact Nat.le_trans (En (It (show a+60*b+60<=8890+60 from h0)) 103) (by decide)
theorem amn(h0:a<=40):a≠41:=by lia
theorem amo(h0:a+60*(b+1)+10*c+60<=9000):a+3+60*b+100<=9000:=by rw[Jt a 3];exact Nat.le_trans (C4 (by decide:103<=120) (a+60*b)) (Nat.le_trans (En (Nat.le_add_right (a+60*(b+1)) (10*c)) 60) h0)
theorem amq(h0:a+b<480):a<500:=Nat.lt_of_le_of_lt (Nat.le_add_right a b) (CT h0 (by decide))
theorem amr{a:Int}(h0:0<=a)(h1:b<=16777216)(h2:DH a<b):a<(b:Int)/\a<16777216:=⟨(GZ h0).mp h2,KB ((GZ h0).mp h2) (DV.mpr h1)⟩
theorem ams{a:Int}(h0:¬0<=a):a<0:=Int.lt_of_not_ge h0
theorem amt{c:Int}(h0:a=b)(h1:0<=c+(b:Int)):-(b:Int)<=c:=Int.add_nonneg_iff_neg_le.mp h1
theorem amu{a:Int}(h0:0<=a)(h1:a<1000):¬a<0:=Int.not_lt_of_ge h0
theorem amv{a:Int}(h0:0<=a)(h1:a<1000)(h2:DH a<b)(h3:c=b):a<(b:Int):=(GZ h0).mp h2
theorem amw(h0:min a b+c<b):a+c<b:=(Jw a b).elim (λh=>EJ h▸h0) λh=>by rw[Fu h] at h0;exact CP h0 (Ey.mpr (Nat.le_add_right b c))
theorem amx(h0:min a b+c<b):min a b=a:=(Jw a b).elim EJ λh=>CP h0 (by rw[Fu h];exact Ey.mpr (Nat.le_add_right ..))
theorem amy(h0:¬min a b+c<b):¬a+c<b:=λh=>h0 (Nat.lt_of_le_of_lt (En (Gf ..) c) h)
theorem amz(h0:¬min a b+c<b):b<=min a b+c:=Dq h0
theorem amA(h0:¬a+b<c):c<=a+b:=Dq h0
theorem amB(h0:a<b)(h1:0=b-a):False:=CP h1 (CV (Ff h0))
theorem amC(h0:0<a)(h1:b<c)(h2:b+a<=c):c-b+a-1=c-(b+a)+a-1+a:=by rw[<-Er,Jz (LJ h2),L1 (Ff h1)]
theorem amD(h0:¬a+b<=c):c-(a+b)=0:=GM (Ft h0)
theorem rT(h0:0<a):a-1<a:=GN h0 Fe
theorem amE(h0:0<a)(h1:b<c)(h2:¬b+a<=c):c-b+a-1=c-b-1+a:=L1 (Ff h1)
theorem amF(h0:a<b)(h1:¬a+c<=b):b-a-1<c:=Nat.lt_of_le_of_lt (DQ ..) ((Gh (CU h0)).mpr (Fd h1))
theorem amG:a+(b*c+b*1)=a+b+b*c:=by lia
theorem amH(h0:a<b)(h1:c+1=b-a):c=b-(a+1):=(CN (· -1) h1).trans (Er b a 1)
theorem amI(h0:0<a)(h1:b<c)(h2:d+1=f)(h3:d=c-(b+1)):c-(b+a)<d+1:=h3▸Ew (L5 (C4 h0 b) c)
theorem amJ(h0:0<a):b+1+(a-1)=b+a:=by rw[C3,Fc h0]
theorem amK(h0:0<a)(h1:b<c)(h2:d+1=f)(h3:d=c-(b+1)):c-(b+a)<=d:=h3▸L5 (C4 h0 b) c
theorem amL(h0:¬a<b):b-a=0:=GM (Dq h0)
theorem amM:min a b-c<=b:=Nat.le_trans (DQ ..) (D9 ..)
theorem ads(h0:0<a):(a:Int)>0:=GY.mpr h0
theorem adt:¬(a:Int)<0:=Int.not_ofNat_neg a
theorem amN(h0:a<=b)(h1:¬c<=b):min a b<=c:=Nat.le_trans (D9 ..) (Ft h1)
theorem amO(h0:a<=b)(h1:¬c<=b):min a b<=min c b:=Nat.le_min.mpr ⟨Nat.le_trans (D9 ..) (Ft h1),D9 ..⟩
theorem adu(h0:¬a<=b):b<=min a b:=Nat.le_min.mpr ⟨Ft h0,Nat.le_refl _⟩
theorem amQ(h0:min a b=c):c<=b:=h0▸D9 ..
theorem amR(h0:a<=b):min a b=a:=EJ h0
theorem amS{x0 x1 x2 x3:Nat}(h0:((0:Nat)<x0))(h1:(x1=x2))(h2:(((x3:Nat):Int)<((x2:Nat):Int))):((((((x2:Nat):Int)-((x3:Nat):Int))+((x0:Nat):Int))-(1:Int))=(((((x2-x3)+x0)-(1:Nat)):Nat):Int)):=by rw[GA (Nat.le_trans h0 (EU ..)),F8,GA (DV.mp (EQ h2))];rfl
theorem amT(h0:a=b)(h1:¬(c:Int)<(b:Int)):b-c=0:=GM (DV.mp (El.mp h1))
theorem amU(h0:0<a)(h1:b=c)(h2:a*d+a<=c-f+a-1):f+a*d<c:=Lx (Nat.lt_of_add_lt_add_right (Nat.lt_of_le_of_lt h2 (GN (Nat.lt_of_lt_of_le h0 (EU _ _)) Fe)))
theorem amV(h0:a<=b)(h1:c=a):a-d<=b:=Nat.le_trans (DQ ..) h0
theorem amW(h0:a<=16777216)(h1:b<=a):b<=16777216:=Nat.le_trans h1 h0
theorem amY:(0:Int)<=(4611686018427387904:Int)/\(0:Int)<=(0:Int):=by decide
theorem amZ(h0:a<=16777216):a<=1099511627776:=by lia
theorem am1{a:Int}(h0:¬a=0)(h1:a=0):(b+1:Int)=(0:Int):=by lia
theorem am2:a+1+1-1=a+1-1+1:=Nat.add_succ_sub_one (a+1) 0
theorem am3:a+b+(b*(c+1-1)+(d+f))=b*(c+1-1)+b*1+(a+(d+f)):=by rw[Jy,Ev a,Ev (b*_) b,C3 b,C3 b,Nat.add_left_comm a]
theorem adv:a+b+c=a+(b+c):=C3 a b c
theorem am4(h0:2<=a)(h1:0=a):False:=by lia
theorem am5(h0:2<=a)(h1:1=a):False:=by lia
theorem am6(h0:a=b)(h1:c<b)(h2:b-c=d+1):b-(c+1)=d:=(Er b c 1).symm.trans (CN (· -1) h2)
theorem adw(h0:a<=16777216):a<=16777216:=by lia
theorem am7(h0:a+60*(b+1)+10*c+60<=9000):a+60*(b+1)<=8950:=Nat.le_trans (Nat.le_trans (Nat.le_add_right _ (10*c)) (It (show _+60<=8940+60 from h0))) (by decide)
theorem am8:2+2*a=2*(a+1):=by lia
theorem am9(h0:2*a<=b)(h1:c+d=a+1)(h2:d<a)(h3:f=2*d):f<b:=h3▸Nat.lt_of_succ_lt (Nat.le_trans (Ea 2 h2) h0:2*d+1<b)
theorem ana(h0:2*a<=b)(h1:c+d=a+1)(h2:d<a)(h3:f=2*d):f+1<b:=h3▸(Nat.le_trans (Ea 2 h2) h0:2*d+1<b)
theorem anb{a:Int}:0<=a%256:=by lia
theorem anc(h0:a+b=c+1)(h1:b<c):a-1<a:=GN (Nat.pos_of_ne_zero λe=>by rw[e,EV] at h0;exact CP h1 (Ey.mpr (h0▸FL c))) Fe
theorem ane(h0:a+b=c+1)(h1:b<c):a-1+(b+1)=c+1:=by cases a with |zero=>rw[EV] at h0;exact CP h1 (Ey.mpr (h0▸FL c)) |succ k=>rw[<-h0];exact(Hs k b).symm
theorem anK{s g v a m L:Nat}(hs:s<g+v+(a+m)+L)(pm:0<m)(c4:¬s-g-v-a<m):s-g-v-a-m<L:=by rw[Er s,Er s] at c4⊢;rw[Er s];have h:=Dq c4;refine Nat.sub_lt_left_of_lt_add ?_ (by rw[C3 (g+v)];exact hs);rw[Ev];exact Nat.add_le_of_le_sub (CU (LQ (Nat.lt_of_lt_of_le pm h))) h
theorem anJ{a b c d q l:Nat}(h0:q<=l)(t:a-b=l+c)(h:a<d):q<d:=Nat.lt_of_le_of_lt (Nat.le_trans (Nat.le_trans h0 (Nat.le_add_right ..)) (t▸DQ ..)) h
@[elab_as_elim] theorem rwg{α:Sort _}{a b:α}{M:α->Prop}(h:a=b)(k:M b):M a:=h▸k
@[elab_as_elim] theorem rwb{α:Sort _}{a b:α}{M:α->Prop}(h:b=a)(k:M b):M a:=h▸k
section
set_option compiler.extract_closed false
open Lean
def patZ (l:List Syntax):Syntax:=.node .none `null l.toArray
def patX (a:List Syntax)(s:String):Syntax:=((s.splitOn " ").foldl (fun t w=>match w.splitOn "/" with
  |[k,n]=>let n:=n.toNat!;.node .none (if k.length<6 then .mkSimple k else ("Lean."++k).toName) (t.take n).reverse.toArray::t.drop n
  |_=>(match w.toNat? with
    |some i=>a.getD i .missing
    |_=>.atom .none w)::t) []).headD .missing
def patQ (l:List Syntax):Syntax:=patX [patZ (l.intersperse (.atom .none ";"))] "0 Parser.Tactic.tacticSeq1Indented/1 Parser.Tactic.tacticSeq/1"
def pat1 (l:List (List Syntax)):Syntax:=patX [patZ (l.map fun t=>patX [patQ t] "| 0 group/2")] "first 0 Parser.Tactic.first/2"
def patE (f:String)(e:Syntax):Syntax:=patX [mkIdent (.str `Internal f),e] "refine 0 1 ? _ Parser.Term.syntheticHole/2 null/2 Parser.Term.app/2 Parser.Tactic.refine/2"
def patF (c:Bool)(f:String)(e:Syntax)(ns:List Syntax):List Syntax:=patE f e::((if c then [patX [mkIdent e.getId.getRoot] "clear 0 null/1 Parser.Tactic.clear/2"] else [])++[patX [patZ ns] "intro 0 Parser.Tactic.intro/2"])
def patP (l:List Syntax):Syntax:=patX [patQ l] "( 0 ) Parser.Tactic.paren/3"
def patK (b:Bool)(x:Syntax):MacroM Syntax:=if b then pure x else Macro.throwUnsupported
def patR (s:Syntax):MacroM Syntax:=patK (s[1][0].getNumArgs==0&&s[3].getNumArgs==0) (patP (s[2][1].getSepArgs.toList.map fun r=>pat1 [[patE (if r[0].getNumArgs==0 then "rwg" else "rwb") r[1]],[patX [r,mkIdent `offsetCnstrs] "rewrite + 1 Parser.Tactic.posConfigItem/2 Parser.Tactic.configItem/1 null/1 Parser.Tactic.optConfig/1 [ 0 null/1 ] Parser.Tactic.rwRuleSeq/3 null/0 Parser.Tactic.rewriteSeq/4"]]))
def patI (p:Syntax)(i:Nat):Syntax:=
  let q:=p[0][0][0]
  if p[0][0].getNumArgs ≠ 1 then .missing else if q[0].isIdent then (if q[0].getId==`rfl then mkIdent (.mkSimple s!"zR{i}") else q[0]) else if q.getNumArgs==1 then mkIdent `Z else .missing
def patT (s:Syntax):MacroM Syntax:=
  let p:=s[1][0][0]
  let e:=s[3][1][0]
  let ns:=(p[0][1].getSepArgs.mapIdx fun i x=>patI x i).toList
  let ws:=(("?a e?aa ea ee ae?aaa eaa eea eee aae aee?aaaa eaaa eeaa eeea eeee aaee aeee eaae eaea?aaaaa eaaaa eeaaa eeeaa eeeea aaaae aeaaa?aaaaaa eaaaaa eeaaaa eeeaaa eeeeaa eeeeea eeeeee aeeaaa aeeaae aeeeee".splitOn "?").getD (ns.length-1) "").splitOn " "
  let g:=fun c=>ws.map fun w=>patF c ("o_"++w) e ns
  patK (p.getNumArgs==1&&p[0].isOfKind `Lean.Parser.Tactic.rcasesPat.tuple&&s[2].getNumArgs==0&&s[3][1].getNumArgs==1) (patP (pat1 ((if e.isIdent then g true else [])++g false)::((ns.filter fun n=>n.getId.toString.startsWith "zR").map fun n=>patX [n] "subst 0 null/1 Parser.Tactic.subst/2")))
def patA (c:Bool)(e p:Syntax)(a:Name):Syntax:=patX [mkIdent a,patQ ((if c then [patX [e] "clear 0 null/1 Parser.Tactic.clear/2"] else [])++(if p.getNumArgs==3 then [patX [mkIdent `zz] "intro 0 null/1 Parser.Tactic.intro/2",patX [p,mkIdent `zz] "obtain 0 null/1 Parser.Tactic.rcasesPatMed/1 null/1 null/0 := 1 null/1 null/2 Parser.Tactic.obtain/4"] else [patX [p] "rintro 0 Parser.Tactic.rintroPat.one/1 null/1 null/0 Parser.Tactic.rintro/3"]))] "case' 0 binderIdent/1 null/0 Parser.Tactic.caseArg/2 null/1 => 1 Parser.Tactic.case'/4"
def patO (s:Syntax):MacroM Syntax:=
  let e:=s[1][0][1]
  let p:=s[2][1][0][0]
  let c:=e.isIdent&&e.getId.getRoot==e.getId
  patK (s[1].getNumArgs==1&&s[1][0][0].getNumArgs==0&&p.getNumArgs==3&&s[2][1][1].getNumArgs==0) (pat1 [[patX [mkIdent `Or.elim,e,mkIdent `a,mkIdent `b] "refine 0 1 ? 2 Parser.Term.syntheticHole/2 ? 3 Parser.Term.syntheticHole/2 null/3 Parser.Term.app/2 Parser.Tactic.refine/2",patA c e p[2] `b,patA c e p[0] `a]])
def patC (s:Syntax):MacroM Syntax:=
  let h:=s[1][0][1]
  let x:=fun f=>[patX [mkIdent (.str `Internal f),h,mkIdent `rfl] "exact 0 1 2 null/2 Parser.Term.app/2 Parser.Tactic.exact/2"]
  patK (s[1].getNumArgs==1&&h.isIdent&&s[1][0][0].getNumArgs==0&&s[2].getNumArgs==0&&s[3].getNumArgs==0) (pat1 [x "xo",x "xr",x "xb",patF true "xj" h [h]++[patX [h] "subst 0 null/1 Parser.Tactic.subst/2"]])
end
end
local macro_rules (kind:=Lean.Parser.Tactic.rewriteSeq)|s=>Internal.patR s
local macro_rules (kind:=Lean.Parser.Tactic.obtain)|s=>Internal.patT s
local macro_rules (kind:=Lean.Parser.Tactic.rcases)|s=>Internal.patO s
section
set_option autoImplicit true
inductive AV where
 |undef |none
 |bool (b:Bool) |int (i:Int) |str (s:Str) |bytes (b:List UInt8)
 |ref (a:Nat)
 |tup (vs:List AV)
 |inst (c:Nat) (vs:List AV)
 |tX (vs:List Int)
 |uV (a b c:Int)
 |gd (k:Nat)
 |fn (k:Nat)
noncomputable def AV.ctorIdx(a:AV):Nat:=AV.casesOn (motive_1:=λ_=>Nat) a 0 1 (λ_=>2) (λ_=>3) (λ_=>4) (λ_=>5) (λ_=>6) (λ_=>7) (λ_ _=>8) (λ_=>9) (λ_ _ _=>10) (λ_=>11) λ_=>12
inductive AO where
 |list (xs:List AV)
 |dict (es:List (List UInt8×AV))
 |uv (b:List UInt8)
noncomputable def AO.ctorIdx(a:AO):Nat:=AO.casesOn (motive:=λ_=>Nat) a (λ_=>0) (λ_=>1) λ_=>2
noncomputable abbrev AH:=List AO
inductive R(α:Type) where
 |ok (a:α) (H:AH)
 |exc (k:Nat) (H:AH)
 |bad
noncomputable def R.ctorIdx{α:Type}(a:R α):Nat:=R.casesOn (motive:=λ_=>Nat) a (λ_ _=>0) (λ_ _=>1) 2
noncomputable def R.bind{α β:Type}(r:R α)(f:α->AH->R β):R β:=match r with
 | .ok a H=>f a H
 | .exc k H=>.exc k H
 | .bad=>.bad
noncomputable def R.of{α:Type}(o:Option α)(H:AH):R α:=match o with
 |some a=>.ok a H
 |none=>.bad
set_option genCtorIdx true in
inductive zt |add |sub |mul |fdiv |mod |pow |shl
set_option genCtorIdx true in
inductive yG |eq |ne |lt |le |gt |ge |isin |uo
set_option genCtorIdx true in
inductive BI |len |int |bytes |list |bytearray |max |min |all |isInt |str |range deriving DecidableEq
set_option genCtorIdx true in
inductive MT |append |pop |ub |toBytes |encode |get |join
mutual
inductive PE where
 |var (i:Nat)
 |glob (k:Nat)
 |tm (i:Int) |tO (s:Str) |tu (b:List UInt8) |un (b:Bool)
 |bin (o:zt) (a b:PE)
 |neg (a:PE) |not (a:PE)
 |band (es:ui) |bor (es:ui)
 |cmp (a:PE) (o:yG) (b:PE)
 |uK (a:PE) (o:yG) (b:PE) (o':yG) (c:PE)
 |vd (c a b:PE)
 |list (es:ui) |tup (es:ui) |uR
 |idx (a i:PE)
 |slice (a:PE) (lo hi st:ui)
 |attr (a:PE) (n:Nat)
 |comp (elt:PE) (t:List Nat) (one:Bool) (it:PE) (zip:ui) (conds:ui)
 |call (k:Nat) (es:ui)
 |new (c:Nat) (es:ui)
 |bi (f:BI) (es:ui)
 |tT (m:MT) (o:PE) (es:ui)
 |most (o:PE)
 |tH (i:Nat) (ue:List Nat)
inductive ui where
 |nil
 |cons (e:PE) (es:ui)
end
inductive PT where
 |var (i:Nat)
 |tup (is:List Nat)
 |sub (a i:PE)
mutual
inductive PS where
 |assign (t:PT) (e:PE)
 |expr (e:PE)
 |ret (e:PE)
 |ifs (c:PE) (a b:tW)
 |uU (c:PE) (b:tW)
 |for (t:List Nat) (one:Bool) (it:PE) (b:tW)
 |raise (k:Nat)
 |vR (e:PE) (hs:xB)
 |defn (i k:Nat)
inductive tW where
 |nil
 |cons (s:PS) (ss:tW)
inductive xB where
 |nil
 |cons (k:Nat) (b:tW) (hs:xB)
end
noncomputable def jX:List UInt8:= [32,9,10,11,12,13]
noncomputable def aW:List UInt8:= [87,73,68,84,72]
noncomputable def aV:List UInt8:= [72,69,73,71,72,84]
noncomputable def aZ:List UInt8:= [68,69,80,84,72]
noncomputable def aU:List UInt8:= [77,65,88,86,65,76]
noncomputable def pW:List UInt8:= [71,82,65,89,83,67,65,76,69]
noncomputable def pX:List UInt8:= [82,71,66]
noncomputable def pV:List UInt8:= [67,77,89,75]
def mc:List AV:= [.bytes aW,.bytes aV,.bytes aZ,.bytes aU]
def tabI:Nat->List (Int×AV)
 |3=>[(1,.bytes pW),(3,.bytes pX),(4,.bytes pV)]
 |4=>[(1,.str "grey"),(3,.str "rgb"),(4,.str "cmyk")]
 |_=>[]
noncomputable def tabS:Nat->List (Str×AV)
 |5=>[("grey",.int 1),("rgb",.int 3),("ycc",.int 3),("cmyk",.int 4),("ycck",.int 4)]
 |_=>[]
def lV:Nat->AV
 |0=>.bytes jX
 |1=>.int 9
 |2=>.tup mc
 |k=>.gd k
noncomputable def al:Nat:=16777216
noncomputable def cI:Nat:=18446744073709551616
noncomputable def az(H:AH)(p:Nat):Option (List AV):=match H[p]? with
 |some (.list xs)=>some xs
 |_=>none
def cn(xs:List AV)(H:AH):R AV:=if xs.length<=al then .ok (.ref H.length) (H++[.list xs]) else .bad
def jB(b:List UInt8)(H:AH):R AV:=if b.length<=al then .ok (.bytes b) H else .bad
noncomputable def aF{γ:Type}(d:γ)(a:AV)(f:Int->γ):γ:=match a with
 | .int i=>f i
 |_=>d
noncomputable def bI{γ:Type}(d:γ)(a:AV)(f:List UInt8->γ):γ:=match a with
 | .bytes i=>f i
 |_=>d
noncomputable def eN{γ:Type}(d:γ)(a:AV)(f:Str->γ):γ:=match a with
 | .str i=>f i
 |_=>d
noncomputable def bN{γ:Type}(d:γ)(a:AV)(f:Bool->γ):γ:=match a with
 | .bool i=>f i
 |_=>d
noncomputable def kA{γ:Type}(d:γ)(a:AV)(f:Nat->γ):γ:=match a with
 | .ref i=>f i
 |_=>d
noncomputable def iu{γ:Type}(d:γ)(a:AV)(f:List AV->γ):γ:=match a with
 | .tup i=>f i
 |_=>d
noncomputable def gV{γ:Type}(d:γ)(a:AV)(f:Nat->γ):γ:=match a with
 | .gd i=>f i
 |_=>d
noncomputable def ky{γ:Type}(d:γ)(a:AV)(f:List Int->γ):γ:=match a with
 | .tX i=>f i
 |_=>d
noncomputable def oz{γ:Type}(d:γ)(a:AV)(r:γ):γ:=match a with
 | .none=>r
 |_=>d
noncomputable def rV{γ:Type}(d:γ)(a:AV)(f:Nat->List AV->γ):γ:=match a with
 | .inst c vs=>f c vs
 |_=>d
noncomputable def aJ{γ α:Type}(d:γ)(a:Option α)(f:α->γ):γ:=match a with
 |some i=>f i
 |none=>d
def bU{γ:Type}(d:γ)(H:AH)(a:AV)(f:Nat->List AV->γ):γ:=kA d a λp=>aJ d (az H p) λxs=>f p xs
noncomputable def dv(H:AH)(p:Nat):Option (List (List UInt8×AV)):=match H[p]? with
 |some (.dict es)=>some es
 |_=>none
def gU{γ:Type}(d:γ)(H:AH)(a:AV)(f:Nat->List (List UInt8×AV)->γ):γ:=kA d a λp=>aJ d (dv H p) λes=>f p es
noncomputable def ew{γ:Type}(d:γ)(vs:List AV)(r:γ):γ:=match vs with
 |[]=>r
 |_=>d
noncomputable def gj{γ:Type}(d:γ)(vs:List AV)(f:AV->List AV->γ):γ:=match vs with
 |v::r=>f v r
 |[]=>d
def cF{γ:Type}(d:γ)(vs:List AV)(f:AV->γ):γ:=gj d vs λv r=>ew d r (f v)
def jF{γ:Type}(d:γ)(vs:List AV)(f:AV->AV->γ):γ:=gj d vs λv r=>cF d r (f v)
noncomputable def av{γ:Type}(d:γ)(c:Prop)[Decidable c](r:γ):γ:=if c then r else d
section
variable {γ:Type}{C:γ->Prop}{d:γ}{a:AV}{H:AH}{vs:List AV}
theorem kz{f:Int->γ}(h:C (aF d a f)):(∃i,a=.int i/\C (f i))\/C d:=by cases a<;>first |exact .inr h |exact .inl (ae _ rfl h)
theorem mo{f:List UInt8->γ}(h:C (bI d a f)):(∃i,a=.bytes i/\C (f i))\/C d:=by cases a<;>first |exact .inr h |exact .inl (ae _ rfl h)
theorem oE{f:Str->γ}(h:C (eN d a f)):(∃i,a=.str i/\C (f i))\/C d:=by cases a<;>first |exact .inr h |exact .inl (ae _ rfl h)
theorem rW{f:Bool->γ}(h:C (bN d a f)):(∃i,a=.bool i/\C (f i))\/C d:=by cases a<;>first |exact .inr h |exact .inl (ae _ rfl h)
theorem adB{f:Nat->γ}(h:C (kA d a f)):(∃i,a=.ref i/\C (f i))\/C d:=by cases a<;>first |exact .inr h |exact .inl (ae _ rfl h)
theorem adC{f:List AV->γ}(h:C (iu d a f)):(∃i,a=.tup i/\C (f i))\/C d:=by cases a<;>first |exact .inr h |exact .inl (ae _ rfl h)
theorem rY{f:Nat->γ}(h:C (gV d a f)):(∃i,a=.gd i/\C (f i))\/C d:=by cases a<;>first |exact .inr h |exact .inl (ae _ rfl h)
theorem adA{f:List Int->γ}(h:C (ky d a f)):(∃i,a=.tX i/\C (f i))\/C d:=by cases a<;>first |exact .inr h |exact .inl (ae _ rfl h)
theorem anN{r:γ}(h:C (oz d a r)):(a=.none/\C r)\/C d:=by cases a<;>first |exact .inr h |exact .inl ⟨rfl,h⟩
theorem adz{f:Nat->List AV->γ}(h:C (rV d a f)):(∃c vs,a=.inst c vs/\C (f c vs))\/C d:=by cases a<;>first |exact .inr h |exact .inl (bR _ _ rfl h)
theorem rZ{α:Type}{o:Option α}{f:α->γ}(h:C (aJ d o f)):(∃i,o=some i/\C (f i))\/C d:=by
 cases o with
 |none=>exact .inr h
 |some x=>exact .inl (ae _ rfl h)
theorem rU{r:γ}(h:C (ew d vs r)):(vs=[]/\C r)\/C d:=by
 cases vs with
 |nil=>exact .inl ⟨rfl,h⟩
 |cons v r=>exact .inr h
theorem ou{f:AV->List AV->γ}(h:C (gj d vs f)):(∃v r,vs=v::r/\C (f v r))\/C d:=by
 cases vs with
 |nil=>exact .inr h
 |cons v r=>exact .inl (bR _ _ rfl h)
theorem oA{c:Prop}[Decidable c]{r:γ}(h:C (av d c r)):(c/\C r)\/C d:=by
 unfold av at h
 split at h
 ·exact .inl ⟨‹_›,h⟩
 ·exact .inr h
theorem ow{f:Nat->List AV->γ}(h:C (bU d H a f)):(∃p xs,a=.ref p/\az H p=some xs/\C (f p xs))\/C d:=by
 rcases adB h with⟨p,rfl,h⟩ |h
 ·rcases rZ h with⟨xs,e,h⟩ |h
  ·exact .inl (ax p xs rfl e h)
  ·exact .inr h
 ·exact .inr h
theorem rX{f:Nat->List (List UInt8×AV)->γ}(h:C (gU d H a f)):(∃p es,a=.ref p/\dv H p=some es/\C (f p es))\/C d:=by
 rcases adB h with⟨p,rfl,h⟩ |h
 ·rcases rZ h with⟨xs,e,h⟩ |h
  ·exact .inl (ax p xs rfl e h)
  ·exact .inr h
 ·exact .inr h
theorem ady{f:AV->γ}(h:C (cF d vs f)):(∃v,vs=[v]/\C (f v))\/C d:=by
 rcases ou h with⟨v,r,rfl,h⟩ |h
 ·rcases rU h with⟨rfl,h⟩ |h
  ·exact .inl (ae v rfl h)
  ·exact .inr h
 ·exact .inr h
theorem anL{f:AV->AV->γ}(h:C (jF d vs f)):(∃v w,vs=[v,w]/\C (f v w))\/C d:=by
 rcases ou h with⟨v,r,rfl,h⟩ |h
 ·rcases ady h with⟨w,rfl,h⟩ |h
  ·exact .inl (bR v w rfl h)
  ·exact .inr h
 ·exact .inr h
end
namespace um
section
variable {α:Type}{r:α}{d:Option α}{a:AV}{H:AH}{vs:List AV}
theorem oI{f:Int->Option α}(h:aF d a f=some r):(∃i,a=.int i/\f i=some r)\/d=some r:=kz (C:=λo=>o=some r) h
theorem pI{f:Int->Option α}(h:aF none a f=some r):∃i,a=.int i/\f i=some r:=(oI h).resolve_right nofun
theorem oY{f:List UInt8->Option α}(h:bI d a f=some r):(∃i,a=.bytes i/\f i=some r)\/d=some r:=mo (C:=λo=>o=some r) h
theorem pY{f:List UInt8->Option α}(h:bI none a f=some r):∃i,a=.bytes i/\f i=some r:=(oY h).resolve_right nofun
theorem oS{f:Str->Option α}(h:eN d a f=some r):(∃i,a=.str i/\f i=some r)\/d=some r:=oE (C:=λo=>o=some r) h
theorem pS{f:Str->Option α}(h:eN none a f=some r):∃i,a=.str i/\f i=some r:=(oS h).resolve_right nofun
theorem oB{f:Bool->Option α}(h:bN d a f=some r):(∃i,a=.bool i/\f i=some r)\/d=some r:=rW (C:=λo=>o=some r) h
theorem pB{f:Bool->Option α}(h:bN none a f=some r):∃i,a=.bool i/\f i=some r:=(oB h).resolve_right nofun
theorem oT{f:List AV->Option α}(h:iu d a f=some r):(∃i,a=.tup i/\f i=some r)\/d=some r:=adC (C:=λo=>o=some r) h
theorem oG{f:Nat->Option α}(h:gV d a f=some r):(∃i,a=.gd i/\f i=some r)\/d=some r:=rY (C:=λo=>o=some r) h
theorem pG{f:Nat->Option α}(h:gV none a f=some r):∃i,a=.gd i/\f i=some r:=(oG h).resolve_right nofun
theorem oF{f:List Int->Option α}(h:ky d a f=some r):(∃i,a=.tX i/\f i=some r)\/d=some r:=adA (C:=λo=>o=some r) h
theorem oN{g:Option α}(h:oz d a g=some r):(a=.none/\g=some r)\/d=some r:=anN (C:=λo=>o=some r) h
theorem pN{g:Option α}(h:oz none a g=some r):a=.none/\g=some r:=(oN h).resolve_right nofun
theorem oC{f:AV->List AV->Option α}(h:gj d vs f=some r):(∃v l,vs=v::l/\f v l=some r)\/d=some r:=ou (C:=λo=>o=some r) h
theorem pC{f:AV->List AV->Option α}(h:gj none vs f=some r):∃v l,vs=v::l/\f v l=some r:=(oC h).resolve_right nofun
theorem o0{g:Option α}(h:ew d vs g=some r):(vs=[]/\g=some r)\/d=some r:=rU (C:=λo=>o=some r) h
theorem p0{g:Option α}(h:ew none vs g=some r):vs=[]/\g=some r:=(o0 h).resolve_right nofun
theorem oQ{q:Prop}[Decidable q]{g:Option α}(h:av d q g=some r):(q/\g=some r)\/d=some r:=oA (C:=λo=>o=some r) h
theorem pQ{q:Prop}[Decidable q]{g:Option α}(h:av none q g=some r):q/\g=some r:=(oQ h).resolve_right nofun
theorem oL{f:Nat->List AV->Option α}(h:bU d H a f=some r):(∃p xs,a=.ref p/\az H p=some xs/\f p xs=some r)\/d=some r:=ow (C:=λo=>o=some r) h
theorem pL{f:Nat->List AV->Option α}(h:bU none H a f=some r):∃p xs,a=.ref p/\az H p=some xs/\f p xs=some r:=(oL h).resolve_right nofun
theorem oD{f:Nat->List (List UInt8×AV)->Option α}(h:gU d H a f=some r):(∃p es,a=.ref p/\dv H p=some es/\f p es=some r)\/d=some r:=rX (C:=λo=>o=some r) h
theorem pD{f:Nat->List (List UInt8×AV)->Option α}(h:gU none H a f=some r):∃p es,a=.ref p/\dv H p=some es/\f p es=some r:=(oD h).resolve_right nofun
end
end um
def aeJ(a b:AV)(H:AH):R AV:=aF (bI (bU .bad H a λZ xs=>bU .bad H b λZ ys=>cn (xs++ys) H) a λx=>bI .bad b λy=>jB (x++y) H) a λx=>aF .bad b λy=>.ok (.int (x+y)) H
def aeM(a b:AV)(H:AH):R AV:=aF .bad a λx=>aF .bad b λy=>.ok (.int (x-y)) H
def aeL(a b:AV)(H:AH):R AV:=aF .bad b λy=>aF (bI (bU .bad H a λZ xs=>av .bad (0<y/\y<1000/\xs.length<1000) (cn (CR y.toNat xs).flatten H)) a
   λx=>av .bad (0<x.length/\x.length*y.toNat<=al/\1<y/\y<1000) (.ok (.bytes (CR y.toNat x).flatten) H)) a
   λx=>av .bad (x.natAbs<cI\/y.natAbs<cI) (.ok (.int (x*y)) H)
def aqs(a b:AV)(H:AH):R AV:=aF .bad a λx=>aF .bad b λy=>av .bad (0<y/\y<1073741824) (.ok (.int (x.fdiv y)) H)
def aqt(a b:AV)(H:AH):R AV:=aF .bad a λx=>aF .bad b λy=>av .bad (0<y/\y<4294967296) (.ok (.int (x.fmod y)) H)
def aqu(a b:AV)(H:AH):R AV:=aF .bad a λx=>aF .bad b λy=>av .bad (0<=y/\y<=1000/\x.natAbs<cI) (.ok (.int (x^y.toNat)) H)
def aqv(a b:AV)(H:AH):R AV:=aF .bad a λx=>aF .bad b λy=>av .bad (0<=y/\y<=1000/\x.natAbs<cI) (.ok (.int (x*2^y.toNat)) H)
def dc(o:zt)(a b:AV)(H:AH):R AV:=match o with
 | .add=>aeJ a b H
 | .sub=>aeM a b H
 | .mul=>aeL a b H
 | .fdiv=>aqs a b H
 | .mod=>aqt a b H
 | .pow=>aqu a b H
 | .shl=>aqv a b H
def ff(f:AV->AV->Option Bool):List AV->List AV->Option Bool
 |[],ys=>ew none ys (some true)
 |x::xs,ys=>gj none ys λy ys=>(f x y).bind λa=>(ff f xs ys).map (a&&·)
def il(x y:AV):Option Bool:=aF (bI (eN (bN (oz none x (eN none y λZ=>some false)) x λa=>bN none y λb=>some (a==b)) x λa=>eN none y λb=>some (a==b)) x λa=>bI none y λb=>some (a==b)) x λa=>aF none y λb=>some (a==b)
def de(H:AH):Nat->AV->AV->Option Bool
 |0,x,y=>il x y
 |n+1,x,y=>bU (il x y) H x λZ xs=>bU none H y λZ ys=>if xs.length=ys.length then ff (de H n) xs ys else some false
noncomputable def gO(f:AV->Option Bool):List AV->Option Bool
 |[]=>some false
 |x::xs=>(f x).bind λa=>(gO f xs).map (a||·)
def gI(x y:AV):Option Bool:=aF (bI (bN none x λa=>bN none y λb=>some (a==b)) x λa=>bI none y λb=>some (a==b)) x λa=>aF none y λb=>some (a==b)
def kn(H:AH)(a b:AV):Option Bool:=aF (bI (bN none a λx=>bU none H b λZ xs=>gO (λy=>gI y (.bool x)) xs) a
  λk=>iu (gU none H b λZ es=>some (es.any λe=>e.1==k)) b λvs=>gO (λy=>gI y (.bytes k)) vs) a
  λx=>bI (iu (gV none b λk=>av none (k=3\/k=4) (some ((tabI k).any λe=>e.1==x))) b λvs=>gO (λy=>gI y (.int x)) vs) b λb=>av none (0<=x/\x<256) (some (b.any λc=>(c.toNat:Int)==x))
def cEq(H:AH)(a b:AV):Option Bool:=de H 4 a b
def cNe(H:AH)(a b:AV):Option Bool:=(de H 4 a b).map (!·)
def cLt(H:AH)(a b:AV):Option Bool:=aF none a λx=>aF none b λy=>some (decide (x<y))
def cLe(H:AH)(a b:AV):Option Bool:=aF none a λx=>aF none b λy=>some (decide (x<=y))
def cGt(H:AH)(a b:AV):Option Bool:=aF none a λx=>aF none b λy=>some (decide (x>y))
def cGe(H:AH)(a b:AV):Option Bool:=aF none a λx=>aF none b λy=>some (decide (x>=y))
def aga(H:AH)(a b:AV):Option Bool:=kn H a b
def agc(H:AH)(a b:AV):Option Bool:=(kn H a b).map (!·)
def bj(H:AH)(o:yG)(a b:AV):Option Bool:=match o with
 | .eq=>cEq H a b
 | .ne=>cNe H a b
 | .lt=>cLt H a b
 | .le=>cLe H a b
 | .gt=>cGt H a b
 | .ge=>cGe H a b
 | .isin=>aga H a b
 | .uo=>agc H a b
noncomputable def jy{α:Type}(xs:List α)(i:Int):Option α:=if 0<=i then xs[i.toNat]? else if 0<=i+xs.length then xs[(i+xs.length).toNat]? else none
def eJ(H:AH)(a i:AV):Option AV:=aF (bI none i λk=>gU none H a λZ es=>(es.find? λe=>e.1==k).map (·.2)) i
 λi=>bI (bU (iu (ky (gV none a λk=>av none (k=3\/k=4) (((tabI k).find? λe=>e.1==i).map (·.2))) a λvs=>av none (0<=i) ((vs[i.toNat]?).map .int)) a λvs=>av none (0<=i/\i<1000) (vs[i.toNat]?)) H a λZ xs=>jy xs i) a
  λb=>av none (0<=i) ((b[i.toNat]?).map λc=>.int c.toNat)
noncomputable def cut{α:Type}(xs:List α)(lo hi:Nat):List α:=(xs.take hi).drop lo
noncomputable def every{α:Type}(st:Nat):Nat->List α->List α
 |0,_=>[]
 |n+1,xs=>match xs with
  |[]=>[]
  |x::r=>x::every st n (r.drop (st-1))
noncomputable def ji:Int:=1099511627776
abbrev cg(i:Int):Prop:=0<=i/\i<ji
def dB(H:AH)(a:AV)(lo hi st:List AV):R AV:=ew (bU .bad H a λZ xs=>cF .bad lo λl=>cF .bad hi λu=>cF .bad st λt=>aF .bad l λl=>aF .bad u λu=>aF .bad t λt=>
   av .bad (cg l/\cg u/\0<t/\t<ji) (.ok (.ref H.length) (H++[.list (every t.toNat xs.length (cut xs l.toNat u.toNat))]))) st
 (ew (cF .bad lo λl=>aF .bad l λl=>ew (cF .bad hi λu=>aF .bad u λu=>bI .bad a λb=>av .bad (cg l/\cg u) (.ok (.bytes (cut b l.toNat u.toNat)) H)) hi
    (bI (bU .bad H a λZ xs=>av .bad (cg l) (.ok (.ref H.length) (H++[.list (xs.drop l.toNat)]))) a λb=>av .bad (cg l) (.ok (.bytes (b.drop l.toNat)) H))) lo
  (cF .bad hi λu=>aF .bad u λu=>bI (bU .bad H a λZ xs=>av .bad (cg u) (.ok (.ref H.length) (H++[.list (xs.take u.toNat)]))) a λb=>av .bad (cg u) (.ok (.bytes (b.take u.toNat)) H)))
def mV(c n:Nat):Option Nat:=av none (c<2/\3*c<=n/\n<3*c+3) (some (n-3*c))
def lv(a:AV)(n:Nat):Option AV:=rV none a λc vs=>(mV c n).bind λi=>vs[i]?
noncomputable def jT{α:Type}(g:AV->Option α):List AV->Option (List α)
 |[]=>some []
 |v::r=>(g v).bind λx=>(jT g r).map (x::·)
def u9:List AV->Option (List Int):=jT λv=>aF none v some
def bools:List AV->Option (List Bool):=jT λv=>bN none v some
def uH:List AV->Option (List (List UInt8)):=jT λv=>bI none v some
noncomputable def dr(i:Int):Bool:=decide (-2305843009213693952<=i)&&decide (i<2305843009213693952)
noncomputable def eR(i:Int):Str:=Ei (toString i)
def aay(H:AH)(vs:List AV):R AV:=cF .bad vs λa=>bI (bU (iu (ky .bad a λvs=>.ok (.int vs.length) H) a λvs=>av .bad (vs.length<1000) (.ok (.int vs.length) H)) H a λZ xs=>.ok (.int xs.length) H) a λb=>.ok (.int b.length) H
def aaw(H:AH)(vs:List AV):R AV:=cF .bad vs λa=>bN (aF .bad a λi=>.ok (.int i) H) a λb=>.ok (.int (if b then 1 else 0)) H
def aav(H:AH)(vs:List AV):R AV:=cF .bad vs λa=>bI (bU .bad H a λZ xs=>aJ .bad (u9 xs) λns=>av .bad ((ns.all λn=>decide (0<=n)&&decide (n<256))=true) (.ok (.bytes (ns.map λn=>CZ n.toNat)) H)) a λb=>.ok (.bytes b) H
def aaz(H:AH)(vs:List AV):R AV:=cF .bad vs λa=>bI (bU .bad H a λZ xs=>.ok (.ref H.length) (H++[.list xs])) a λb=>.ok (.ref H.length) (H++[.list (b.map λc=>.int c.toNat)])
def aaA(H:AH)(vs:List AV):R AV:=cF .bad vs λa=>bU .bad H a λZ xs=>aJ .bad (u9 xs) λns=>match ns with
  |n::ns=>.ok (.int (ns.foldl max n)) H
  |[]=>.bad
def aaB(H:AH)(vs:List AV):R AV:=jF .bad vs λa b=>aF .bad a λx=>aF .bad b λy=>.ok (.int (if y<x then y else x)) H
def pU(H:AH)(vs:List AV):R AV:=cF .bad vs λa=>bU .bad H a λZ xs=>aJ .bad (bools xs) λbs=>.ok (.bool (bs.all id)) H
def aax(H:AH)(vs:List AV):R AV:=cF .bad vs λa=>aF .bad a λZ=>.ok (.bool true) H
def aaD(H:AH)(vs:List AV):R AV:=cF .bad vs λa=>aF .bad a λi=>av .bad (i.natAbs<10^18) (.ok (.str (eR i)) H)
def aaC(H:AH)(vs:List AV):R AV:=gj .bad vs λa vs=>aF .bad a λa=>ew (gj .bad vs λb vs=>aF .bad b λb=>ew (cF .bad vs λc=>aF .bad c λc=>av .bad ((dr a&&dr b&&decide (0<c)&&decide (c<1000))=true) (.ok (.uV a b c) H)) vs
   (av .bad ((dr a&&dr b)=true) (.ok (.uV a b 1) H))) vs (av .bad (dr a=true) (.ok (.uV 0 a 1) H))
def cT(H:AH)(f:BI)(vs:List AV):R AV:=match f with
 | .len=>aay H vs
 | .int=>aaw H vs
 | .bytes=>aav H vs
 | .list=>aaz H vs
 | .max=>aaA H vs
 | .min=>aaB H vs
 | .all=>pU H vs
 | .isInt=>aax H vs
 | .str=>aaD H vs
 | .range=>aaC H vs
 | .bytearray=>.bad
noncomputable def ct(sep:List UInt8):List (List UInt8)->List UInt8
 |[]=>[]
 |[x]=>x
 |x::r=>x++sep++ct sep r
def aiN(H:AH)(o:AV):Bool:=bU false H o λZ Z=>true
def aiT(H:AH)(o:AV):Bool:=bU false H o λZ Z=>true
def aiP(H:AH)(o:AV):Bool:=aF false o λZ=>true
def aiU(H:AH)(o:AV):Bool:=aF false o λZ=>true
def aiQ(H:AH)(o:AV):Bool:=eN false o λZ=>true
def aiR(H:AH)(o:AV):Bool:=gV (gU false H o λZ Z=>true) o λk=>decide (k=3\/k=4\/k=5)
def aiS(H:AH)(o:AV):Bool:=bI false o λZ=>true
def l9(H:AH)(m:MT)(o:AV):Bool:=match m with
 | .append=>aiN H o
 | .pop=>aiT H o
 | .ub=>aiP H o
 | .toBytes=>aiU H o
 | .encode=>aiQ H o
 | .get=>aiR H o
 | .join=>aiS H o
noncomputable def ic(i n:Int):Option (List UInt8):=if n=1 then if 0<=i/\i<256 then some [CZ i.toNat] else none
 else if n=2 then if 0<=i/\i<65536 then some [CZ (i.toNat/256),CZ (i.toNat%256)] else none else none
noncomputable def fo(i:Int):Int:=if i=0 then 0 else(i.natAbs.log2+1:Nat)
def acB(H:AH)(o:AV)(vs:List AV):R AV:=cF .bad vs λv=>bU .bad H o λp xs=>av .bad (xs.length<al) (.ok .none (H.set p (.list (xs++[v]))))
def acD(H:AH)(o:AV)(vs:List AV):R AV:=ew .bad vs (bU .bad H o λp xs=>aJ .bad xs.getLast? λv=>.ok v (H.set p (.list xs.dropLast)))
def aje(H:AH)(o:AV)(vs:List AV):R AV:=ew .bad vs (aF .bad o λi=>av .bad (0<=i) (.ok (.int (fo i)) H))
def ajh(H:AH)(o:AV)(vs:List AV):R AV:=jF .bad vs λn e=>aF .bad o λi=>aF .bad n λn=>eN .bad e λe=>av .bad ((e=="big")=true) (.of ((ic i n).map .bytes) H)
def ajf(H:AH)(o:AV)(vs:List AV):R AV:=cF .bad vs λe=>eN .bad o λs=>eN .bad e λe=>av .bad ((e=="ascii"&&s.cps.toList.all (λc=>decide (c<128))&&decide (s.cps.size<=al))=true) (.ok (.bytes (s.cps.toList.map CZ)) H)
def acC(H:AH)(o:AV)(vs:List AV):R AV:=gj .bad vs λk vs=>ew (cF .bad vs λd=>gV (gU .bad H o λZ es=>bI .bad k λk=>.ok (((es.find? λe=>e.1==k).map (·.2)).getD d) H) o
    λg=>av .bad (g=5) (eN .bad k λi=>.ok ((((tabS g).find? λe=>e.1==i).map (·.2)).getD d) H)) vs
   (gV .bad o λg=>av .bad (g=3\/g=4) (aF .bad k λi=>.ok ((((tabI g).find? λe=>e.1==i).map (·.2)).getD .none) H))
def ajg(H:AH)(o:AV)(vs:List AV):R AV:=cF .bad vs λa=>bI .bad o λsep=>bU .bad H a λZ xs=>aJ .bad (uH xs) λbs=>av .bad (2<=bs.length) (jB (ct sep bs) H)
def dX(H:AH)(m:MT)(o:AV)(vs:List AV):R AV:=match m with
 | .append=>acB H o vs
 | .pop=>acD H o vs
 | .ub=>aje H o vs
 | .toBytes=>ajh H o vs
 | .encode=>ajf H o vs
 | .get=>acC H o vs
 | .join=>ajg H o vs
noncomputable def aS(H:AH)(src:AV)(j:Nat):Option (Option AV):=match src with
 | .ref p=>match az H p with
  |some xs=>some xs[j]?
  |none=>none
 | .tup vs=>some vs[j]?
 | .bytes b=>some ((b[j]?).map λc=>.int c.toNat)
 | .uV a b c=>some (if a+j*c<b then some (.int (a+j*c)) else none)
 |_=>none
def fh(H:AH)(p q:AV)(j:Nat):Option (Option AV):=bU none H p λZ xs=>bU none H q λZ ys=>some ((xs[j]?).bind λx=>(ys[j]?).map λy=>.tup [x,y])
noncomputable def cJ(H:AH)(src:AV):Nat:=match src with
 | .ref p=>((az H p).getD []).length
 | .tup vs=>vs.length
 | .bytes b=>b.length
 | .uV a b _=>(b-a).toNat
 |_=>0
noncomputable abbrev aB:=List AV
noncomputable def dA:List Nat->List AV->aB->Option aB
 |[],[],ρ=>some ρ
 |i::is,v::vs,ρ=>dA is vs (ρ.set i v)
 |_,_,_=>none
noncomputable def jA(H:AH)(v:AV):Option (List AV):=match v with
 | .tup vs=>some vs
 | .ref p=>az H p
 |_=>none
noncomputable def bz(H:AH)(t:List Nat)(one:Bool)(v:AV)(ρ:aB):Option aB:=match one with
 |true=>dA t [v] ρ
 |false=>(jA H v).bind λvs=>dA t vs ρ
noncomputable def dp(item:AH->Nat->Option (Option AV))(f:AV->AH->R (Option AV)):Nat->Nat->List AV->AH->R (List AV)
 |0,_,_,_=>.bad
 |n+1,j,acc,H=>match item H j with
  |some (some v)=>match f v H with
   | .ok o H=>dp item f n (j+1) (acc++o.toList) H
   |_=>.bad
  |some none=>.ok acc H
  |none=>.bad
inductive Fl where
 |next (ρ:aB)
 |ret (v:AV)
noncomputable def Fl.ctorIdx(a:Fl):Nat:=Fl.casesOn (motive:=λ_=>Nat) a (λ_=>0) λ_=>1
noncomputable def ga(item:AH->Nat->Option (Option AV))(f:AV->aB->AH->R Fl):Nat->Nat->aB->AH->R Fl
 |0,_,_,_=>.bad
 |n+1,j,ρ,H=>match item H j with
  |some (some v)=>(f v ρ H).bind λfl H=>match fl with
   | .next ρ=>ga item f n (j+1) ρ H
   | .ret v=>.ok (.ret v) H
  |some none=>.ok (.next ρ) H
  |none=>.bad
def dR(c:aB->AH->R AV)(f:aB->AH->R Fl):Nat->aB->AH->R Fl
 |0,_,_=>.bad
 |n+1,ρ,H=>(c ρ H).bind λv H=>bN .bad v λr=>if r then(f ρ H).bind λfl H=>match fl with
   | .next ρ=>dR c f n ρ H
   | .ret v=>.ok (.ret v) H
  else .ok (.next ρ) H
noncomputable def acm:Nat:=40
structure Ctx where
 C:Nat->List AV->AH->R AV
 wf:Nat
 hd:Bool
def nR(v:AV):Bool:=rV false v λc Z=>c==1
noncomputable def fg:AV->Bool
 | .ref _=>true
 |_=>false
noncomputable def fB:AV->Bool
 | .none | .bool _ | .int _ | .str _ | .bytes _=>true
 |_=>false
mutual
def ev(Γ:Ctx):PE->Nat->aB->AH->R AV
 | .var i,_,ρ,H=>match ρ[i]? with
  |some .undef=>.bad
  |some (.fn _)=>.bad
  |some v=>.ok v H
  |none=>.bad
 | .glob k,_,_,H=>.ok (lV k) H
 | .tm i,_,_,H=>.ok (.int i) H
 | .tO s,_,_,H=>.ok (.str s) H
 | .tu b,_,_,H=>.ok (.bytes b) H
 | .un b,_,_,H=>.ok (.bool b) H
 | .bin o a b,m,ρ,H=>(ev Γ a m ρ H).bind λx H=>(ev Γ b m ρ H).bind λy H=>dc o x y H
 | .neg a,m,ρ,H=>(ev Γ a m ρ H).bind λx H=>aF .bad x λi=>.ok (.int (-i)) H
 | .not a,m,ρ,H=>(ev Γ a m ρ H).bind λx H=>bN .bad x λb=>.ok (.bool (!b)) H
 | .band es,m,ρ,H=>t9 Γ es m ρ H
 | .bor es,m,ρ,H=>vt Γ es m ρ H
 | .cmp a o b,m,ρ,H=>(ev Γ a m ρ H).bind λx H=>(ev Γ b m ρ H).bind λy H=>.of ((bj H o x y).map .bool) H
 | .uK a o b o' c,m,ρ,H=>(ev Γ a m ρ H).bind λx H=>(ev Γ b m ρ H).bind λy H=>aJ .bad (bj H o x y) λr=>if r then(ev Γ c m ρ H).bind λz H=>.of ((bj H o' y z).map .bool) H else .ok (.bool false) H
 | .vd c a b,m,ρ,H=>(ev Γ c m ρ H).bind λx H=>bN .bad x λr=>if r then ev Γ a m ρ H else ev Γ b m ρ H
 | .list es,m,ρ,H=>(uj Γ es m ρ H).bind λvs H=>cn vs H
 | .tup es,m,ρ,H=>(uj Γ es m ρ H).bind λvs H=>.ok (.tup vs) H
 | .uR,_,_,H=>.ok (.ref H.length) (H++[.dict []])
 | .idx a i,m,ρ,H=>(ev Γ a m ρ H).bind λx H=>(ev Γ i m ρ H).bind λy H=>.of (eJ H x y) H
 | .slice a lo hi st,m,ρ,H=>(ev Γ a m ρ H).bind λx H=>(uj Γ lo m ρ H).bind λl H=>(uj Γ hi m ρ H).bind λu H=>(uj Γ st m ρ H).bind λt H=>dB H x l u t
 | .attr a n,m,ρ,H=>(ev Γ a m ρ H).bind λx H=>.of (lv x n) H
 | .comp elt t one it zip conds,m,ρ,H=>match m with
  |0=>.bad
  |m+1=>(ev Γ it (m+1) ρ H).bind λsrc H=>(uj Γ zip (m+1) ρ H).bind λz H=>
   if Γ.hd&& !(fg src&&z.isEmpty&&one) then .bad else
   (dp (λH j=>match z with
     |[]=>aS H src j
     |[q]=>fh H src q j
     |_=>none)
    (λv H=>match bz H t one v ρ with
     |some ρ'=>(t9 Γ conds m ρ' H).bind λc H=>bN .bad c λr=>if r then(ev Γ elt m ρ' H).bind λx H=>.ok (some x) H else .ok none H
     |none=>.bad) (cJ H src+1) 0 [] H).bind λxs H=>cn xs H
 | .call k es,m,ρ,H=>(uj Γ es m ρ H).bind λvs H=>Γ.C k vs H
 | .new c es,m,ρ,H=>if Γ.hd then .bad else(uj Γ es m ρ H).bind λvs H=>if vs.length=3 then .ok (.inst c vs) H else .bad
 | .bi f es,m,ρ,H=>if Γ.hd then .bad else(uj Γ es m ρ H).bind λvs H=>cT H f vs
 | .tT f o es,m,ρ,H=>if Γ.hd then .bad else(ev Γ o m ρ H).bind λx H=>if !l9 H f x then .bad else(uj Γ es m ρ H).bind λvs H=>dX H f x vs
 | .most o,m,ρ,H=>(ev Γ o m ρ H).bind λx H=>if nR x then Γ.C acm [x] H else .bad
 | .tH i ue,_,ρ,H=>match ρ[i]? with
  |some (.fn k)=>match ue.mapM λj=>ρ[j]? with
   |some vs=>if k=41/\vs.all fB=true then Γ.C k vs H else .bad
   |none=>.bad
  |_=>.bad
def uj(Γ:Ctx):ui->Nat->aB->AH->R (List AV)
 | .nil,_,_,H=>.ok [] H
 | .cons e es,m,ρ,H=>(ev Γ e m ρ H).bind λv H=>(uj Γ es m ρ H).bind λvs H=>.ok (v::vs) H
def t9(Γ:Ctx):ui->Nat->aB->AH->R AV
 | .nil,_,_,H=>.ok (.bool true) H
 | .cons e es,m,ρ,H=>(ev Γ e m ρ H).bind λv H=>bN .bad v λr=>if r then t9 Γ es m ρ H else .ok (.bool false) H
def vt(Γ:Ctx):ui->Nat->aB->AH->R AV
 | .nil,_,_,H=>.ok (.bool false) H
 | .cons e es,m,ρ,H=>(ev Γ e m ρ H).bind λv H=>bN .bad v λr=>if r then .ok (.bool true) H else vt Γ es m ρ H
end
def gZ(H:AH)(x y v:AV):Option AH:=aF (bI none y λk=>gU none H x λp es=>if((es.any λe=>e.1==k)||decide (1000<es.length))=true then none else some (H.set p (.dict (es++[(k,v)])))) y
 λi=>bU none H x λp xs=>av none (0<=i/\i<xs.length) (some (H.set p (.list (xs.set i.toNat v))))
mutual
def exec(Γ:Ctx):PS->aB->AH->R Fl
 | .assign t e,ρ,H=>(ev Γ e 4 ρ H).bind λv H=>match t with
  | .var i=>.ok (.next (ρ.set i v)) H
  | .tup is=>if Γ.hd then .bad else match bz H is false v ρ with
   |some ρ=>.ok (.next ρ) H
   |none=>.bad
  | .sub a i=>(ev Γ a 4 ρ H).bind λx H=>(ev Γ i 4 ρ H).bind λy H=>match gZ H x y v with
   |some H=>.ok (.next ρ) H
   |none=>.bad
 | .expr e,ρ,H=>(ev Γ e 4 ρ H).bind λv H=>if fB v then .ok (.next ρ) H else .bad
 | .ret e,ρ,H=>(ev Γ e 4 ρ H).bind λv H=>.ok (.ret v) H
 | .ifs c a b,ρ,H=>(ev Γ c 4 ρ H).bind λv H=>bN .bad v λr=>if r then CK Γ a ρ H else CK Γ b ρ H
 | .uU c b,ρ,H=>dR (λρ H=>ev Γ c 4 ρ H) (λρ H=>CK Γ b ρ H) Γ.wf ρ H
 | .for t one it b,ρ,H=>if Γ.hd then .bad else(ev Γ it 4 ρ H).bind λsrc H=>
   ga (λH j=>aS H src j) (λv ρ H=>match bz H t one v ρ with
    |some ρ=>CK Γ b ρ H
    |none=>.bad) (cJ H src+1) 0 ρ H
 | .raise k,_,H=>if Γ.hd then .bad else .exc k H
 | .vR e hs,ρ,H=>if Γ.hd||(match hs with | .nil=>true | .cons _ _ _=>false) then .bad else match ev Γ e 4 ρ H with
  | .ok v H=>if fB v then .ok (.next ρ) H else .bad
  | .exc k H=>handle Γ k hs ρ H
  | .bad=>.bad
 | .defn i k,ρ,H=>.ok (.next (ρ.set i (.fn k))) H
def CK(Γ:Ctx):tW->aB->AH->R Fl
 | .nil,ρ,H=>.ok (.next ρ) H
 | .cons s ss,ρ,H=>(exec Γ s ρ H).bind λfl H=>match fl with
  | .next ρ=>CK Γ ss ρ H
  | .ret v=>.ok (.ret v) H
def handle(Γ:Ctx)(k:Nat):xB->aB->AH->R Fl
 | .nil,_,_=>.bad
 | .cons j b hs,ρ,H=>if min j 2=min k 2 then CK {Γ with C:=λZ Z Z=>.bad,hd:=true} b ρ H else handle Γ k hs ρ H
end
theorem xo{α:Type _}{a b:Option α}{G:Prop}(h:a=b)(k:a.isSome= !b.isSome):G:=by rw[h] at k;revert k;cases b.isSome<;>nofun
theorem xb{a b:Bool}{G:Prop}(h:a=b)(k:a= !b):G:=by rw[h] at k;revert k;cases b<;>nofun
theorem xr{α:Type}{a b:R α}{G:Prop}(h:a=b)(k:Nat.beq a.ctorIdx b.ctorIdx=false):G:=by rw[h,Nat.beq_refl] at k;cases k
theorem xj{α:Type _}{a b:α}{G:Prop}(h:some a=some b)(k:a=b->G):G:=k (C6 h)
end
local macro_rules (kind:=Lean.Parser.Tactic.cases)|s=>Internal.patC s
section
set_option autoImplicit true
set_option autoImplicit true
theorem E1.var:ev Γ (.var i) m ρ H=(match ρ[i]? with
  |some .undef=>.bad
  |some (.fn _)=>.bad
  |some v=>.ok v H
  |none=>.bad):=rfl
noncomputable def onU{γ:Type}(d:γ)(a:AV)(r:γ):γ:=match a with
 | .undef=>d
 | .fn _=>d
 |_=>r
noncomputable def onK{γ:Type}(d:γ)(a:AV)(f:Nat->γ):γ:=match a with
 | .fn k=>f k
 |_=>d
theorem anO{γ:Type}{C:γ->Prop}{d r:γ}{a:AV}(h:C (onU d a r)):(a≠.undef/\(∀k,a≠.fn k)/\C r)\/C d:=by cases a<;>first |exact .inr h |exact .inl ⟨nofun,nofun,h⟩
theorem anM{γ:Type}{C:γ->Prop}{d:γ}{a:AV}{f:Nat->γ}(h:C (onK d a f)):(∃k,a=.fn k/\C (f k))\/C d:=by cases a<;>first |exact .inr h |exact .inl (ae _ rfl h)
theorem E1.atM:ev Γ (.var i) m ρ H=aJ .bad ρ[i]? λv=>onU .bad v (.ok v H):=by
 rw[E1.var]
 cases ρ[i]? with
 |none=>rfl
 |some v=>cases v<;>rfl
theorem E1.glob:ev Γ (.glob k) m ρ H=(.ok (lV k) H):=rfl
theorem E1.tO:ev Γ (.tO s) m ρ H=(.ok (.str s) H):=rfl
theorem E1.bin:ev Γ (.bin o a b) m ρ H=((ev Γ a m ρ H).bind λx H=>(ev Γ b m ρ H).bind λy H=>dc o x y H):=rfl
theorem E1.neg:ev Γ (.neg a) m ρ H=((ev Γ a m ρ H).bind λx H=>aF .bad x λi=>.ok (.int (-i)) H):=rfl
theorem E1.not:ev Γ (.not a) m ρ H=((ev Γ a m ρ H).bind λx H=>bN .bad x λb=>.ok (.bool (!b)) H):=rfl
theorem E1.band:ev Γ (.band es) m ρ H=(t9 Γ es m ρ H):=rfl
theorem E1.bor:ev Γ (.bor es) m ρ H=(vt Γ es m ρ H):=rfl
theorem E1.cmp:ev Γ (.cmp a o b) m ρ H=((ev Γ a m ρ H).bind λx H=>(ev Γ b m ρ H).bind λy H=>.of ((bj H o x y).map .bool) H):=rfl
theorem E1.uK:ev Γ (.uK a o b o' c) m ρ H=((ev Γ a m ρ H).bind λx H=>(ev Γ b m ρ H).bind λy H=>aJ .bad (bj H o x y) λr=>if r then(ev Γ c m ρ H).bind λz H=>.of ((bj H o' y z).map .bool) H else .ok (.bool false) H):=rfl
theorem E1.vd:ev Γ (.vd c a b) m ρ H=((ev Γ c m ρ H).bind λx H=>bN .bad x λr=>if r then ev Γ a m ρ H else ev Γ b m ρ H):=rfl
theorem E1.list:ev Γ (.list es) m ρ H=((uj Γ es m ρ H).bind λvs H=>cn vs H):=rfl
theorem E1.tup:ev Γ (.tup es) m ρ H=((uj Γ es m ρ H).bind λvs H=>.ok (.tup vs) H):=rfl
theorem E1.uR:ev Γ .uR m ρ H=(.ok (.ref H.length) (H++[.dict []])):=rfl
theorem E1.idx:ev Γ (.idx a i) m ρ H=((ev Γ a m ρ H).bind λx H=>(ev Γ i m ρ H).bind λy H=>.of (eJ H x y) H):=rfl
theorem E1.slice:ev Γ (.slice a l0 h0 s0) m ρ H=((ev Γ a m ρ H).bind λx H=>(uj Γ l0 m ρ H).bind λl H=>(uj Γ h0 m ρ H).bind λu H=>(uj Γ s0 m ρ H).bind λt H=>dB H x l u t):=rfl
theorem E1.attr:ev Γ (.attr a n) m ρ H=((ev Γ a m ρ H).bind λx H=>.of (lv x n) H):=rfl
theorem E1.arQ:ev Γ (.comp elt t one it zip conds) 0 ρ H=(.bad):=rfl
theorem E1.comp:ev Γ (.comp elt t one it zip conds) (m+1) ρ H=((ev Γ it (m+1) ρ H).bind λsrc H=>(uj Γ zip (m+1) ρ H).bind λz H=>
   if Γ.hd&& !(fg src&&z.isEmpty&&one) then .bad else
   (dp (λH j=>match z with
     |[]=>aS H src j
     |[q]=>fh H src q j
     |_=>none)
    (λv H=>match bz H t one v ρ with
     |some ρ'=>(t9 Γ conds m ρ' H).bind λc H=>bN .bad c λr=>if r then(ev Γ elt m ρ' H).bind λx H=>.ok (some x) H else .ok none H
     |none=>.bad) (cJ H src+1) 0 [] H).bind λxs H=>cn xs H):=rfl
theorem E1.call:ev Γ (.call k es) m ρ H=((uj Γ es m ρ H).bind λvs H=>Γ.C k vs H):=rfl
theorem E1.new:ev Γ (.new c es) m ρ H=(if Γ.hd then .bad else(uj Γ es m ρ H).bind λvs H=>if vs.length=3 then .ok (.inst c vs) H else .bad):=rfl
theorem E1.bi:ev Γ (.bi f es) m ρ H=(if Γ.hd then .bad else(uj Γ es m ρ H).bind λvs H=>cT H f vs):=rfl
theorem E1.tT:ev Γ (.tT f o es) m ρ H=(if Γ.hd then .bad else(ev Γ o m ρ H).bind λx H=>if !l9 H f x then .bad else(uj Γ es m ρ H).bind λvs H=>dX H f x vs):=rfl
theorem E1.most:ev Γ (.most o) m ρ H=((ev Γ o m ρ H).bind λx H=>if nR x then Γ.C acm [x] H else .bad):=rfl
theorem E1.tH:ev Γ (.tH i ue) m ρ H=(match ρ[i]? with
  |some (.fn k)=>match ue.mapM λj=>ρ[j]? with
   |some vs=>if k=41/\vs.all fB=true then Γ.C k vs H else .bad
   |none=>.bad
  |_=>.bad):=rfl
theorem E1.ar1:ev Γ (.tH i ue) m ρ H=aJ .bad ρ[i]? λv=>onK .bad v λk=>aJ .bad (ue.mapM λj=>ρ[j]?) λvs=>if k=41/\vs.all fB=true then Γ.C k vs H else .bad:=by
 rw[E1.tH]
 cases ρ[i]? with
 |none=>rfl
 |some v=>
  cases v with
  |fn k=>dsimp only;show _=aJ R.bad (ue.mapM λj=>ρ[j]?) _;cases ue.mapM λj=>ρ[j]? <;>rfl
  |_=>rfl
theorem E2.nil:uj Γ .nil m ρ H=(.ok [] H):=rfl
theorem E2.cons:uj Γ (.cons e es) m ρ H=((ev Γ e m ρ H).bind λv H=>(uj Γ es m ρ H).bind λvs H=>.ok (v::vs) H):=rfl
theorem E3.cons:t9 Γ (.cons e es) m ρ H=((ev Γ e m ρ H).bind λv H=>bN .bad v λr=>if r then t9 Γ es m ρ H else .ok (.bool false) H):=rfl
theorem E4.cons:vt Γ (.cons e es) m ρ H=((ev Γ e m ρ H).bind λv H=>bN .bad v λr=>if r then .ok (.bool true) H else vt Γ es m ρ H):=rfl
theorem E5.assign:exec Γ (.assign t e) ρ H=((ev Γ e 4 ρ H).bind λv H=>match t with
  | .var i=>.ok (.next (ρ.set i v)) H
  | .tup is=>if Γ.hd then .bad else match bz H is false v ρ with
   |some ρ=>.ok (.next ρ) H
   |none=>.bad
  | .sub a i=>(ev Γ a 4 ρ H).bind λx H=>(ev Γ i 4 ρ H).bind λy H=>match gZ H x y v with
   |some H=>.ok (.next ρ) H
   |none=>.bad):=rfl
theorem E5.expr:exec Γ (.expr e) ρ H=((ev Γ e 4 ρ H).bind λv H=>if fB v then .ok (.next ρ) H else .bad):=rfl
theorem E5.ret:exec Γ (.ret e) ρ H=((ev Γ e 4 ρ H).bind λv H=>.ok (.ret v) H):=rfl
theorem E5.ifs:exec Γ (.ifs c a b) ρ H=((ev Γ c 4 ρ H).bind λv H=>bN .bad v λr=>if r then CK Γ a ρ H else CK Γ b ρ H):=rfl
theorem E5.uU:exec Γ (.uU c b) ρ H=(dR (λρ H=>ev Γ c 4 ρ H) (λρ H=>CK Γ b ρ H) Γ.wf ρ H):=rfl
theorem E5.for:exec Γ (.for t one it b) ρ H=(if Γ.hd then .bad else(ev Γ it 4 ρ H).bind λsrc H=>
   ga (λH j=>aS H src j) (λv ρ H=>match bz H t one v ρ with
    |some ρ=>CK Γ b ρ H
    |none=>.bad) (cJ H src+1) 0 ρ H):=rfl
theorem E5.raise:exec Γ (.raise k) ρ H=(if Γ.hd then .bad else .exc k H):=rfl
theorem E5.vR:exec Γ (.vR e hs) ρ H=(if Γ.hd||(match hs with | .nil=>true | .cons _ _ _=>false) then .bad else match ev Γ e 4 ρ H with
  | .ok v H=>if fB v then .ok (.next ρ) H else .bad
  | .exc k H=>handle Γ k hs ρ H
  | .bad=>.bad):=rfl
theorem E5.defn:exec Γ (.defn i k) ρ H=(.ok (.next (ρ.set i (.fn k))) H):=rfl
theorem E6.nil:CK Γ .nil ρ H=(.ok (.next ρ) H):=rfl
theorem E6.cons:CK Γ (.cons s ss) ρ H=((exec Γ s ρ H).bind λfl H=>match fl with
  | .next ρ=>CK Γ ss ρ H
  | .ret v=>.ok (.ret v) H):=rfl
theorem E7.nil:handle Γ k .nil ρ H=(.bad):=rfl
theorem E7.cons:handle Γ k (.cons j b hs) ρ H=(if min j 2=min k 2 then CK {Γ with C:=λZ Z Z=>.bad,hd:=true} b ρ H else handle Γ k hs ρ H):=rfl
theorem E8.s:ga g f (n+1) j ρ H=(match g H j with
  |some (some v)=>(f v ρ H).bind λfl H=>match fl with
   | .next ρ=>ga g f n (j+1) ρ H
   | .ret v=>.ok (.ret v) H
  |some none=>.ok (.next ρ) H
  |none=>.bad):=rfl
theorem E9.s:dR c f (n+1) ρ H=((c ρ H).bind λv H=>bN .bad v λr=>if r then(f ρ H).bind λfl H=>match fl with
   | .next ρ=>dR c f n ρ H
   | .ret v=>.ok (.ret v) H
  else .ok (.next ρ) H):=rfl
theorem Ag.s:dp g f (n+1) j acc H=(match g H j with
  |some (some v)=>match f v H with
   | .ok o H=>dp g f n (j+1) (acc++o.toList) H
   |_=>.bad
  |some none=>.ok acc H
  |none=>.bad):=rfl
theorem abl{h:dp g f (n+1) j acc H=.ok xs HF}:(g H j=some none/\xs=acc/\HF=H)\/∃v o H1,g H j=some (some v)/\f v H=.ok o H1/\dp g f n (j+1) (acc++o.toList) H1=.ok xs HF:=by
 rw[Ag.s] at h
 cases q:g H j with
 |none=>rw[q] at h;cases h
 |some r=>
  rw[q] at h
  cases r with
  |none=>cases h;exact .inl ⟨rfl,rfl,rfl⟩
  |some v=>
   dsimp only at h
   cases p:f v H with
   |ok o H1=>rw[p] at h;exact .inr (bZ v o H1 rfl p h)
   |exc=>rw[p] at h;cases h
   |bad=>rw[p] at h;cases h
theorem E1.ase:ev Γ (.comp elt t one it (.cons xN .nil) conds) (m+1) ρ H=(uj Γ (.cons it (.cons xN .nil)) (m+1) ρ H).bind λvs H=>jF .bad vs λsrc q=>if Γ.hd=true then .bad else
   (dp (λH j=>fh H src q j) (λv H=>match bz H t one v ρ with
     |some ρ'=>(t9 Γ conds m ρ' H).bind λc H=>bN .bad c λr=>if r then(ev Γ elt m ρ' H).bind λx H=>.ok (some x) H else .ok none H
     |none=>.bad) (cJ H src+1) 0 [] H).bind λxs H=>cn xs H:=by
 rw[E1.comp,E2.cons]
 cases ev Γ it (m+1) ρ H with
 |ok src H1=>
  show R.bind (uj Γ (.cons xN .nil) (m+1) ρ H1) _=R.bind (R.bind (uj Γ (.cons xN .nil) (m+1) ρ H1) _) _;rw[E2.cons]
  cases ev Γ xN (m+1) ρ H1 with
  |ok q H2=>
   show(if(Γ.hd&& !(fg src&&[q].isEmpty&&one))=true then R.bad else _)=_
   rw[show(Γ.hd&& !(fg src&&[q].isEmpty&&one))=Γ.hd by rw[show [q].isEmpty=false from rfl,HM,HO];exact IH _];rfl
  |exc=>rfl
  |bad=>rfl
 |exc=>rfl
 |bad=>rfl
theorem R.wj{α β:Type}{r:R α}{f:α->AH->R β}{b:β}{H':AH}(h:r.bind f=.ok b H'):∃a H1,r=.ok a H1/\f a H1=.ok b H':=by
 cases r with
 |ok a H1=>exact(bR a H1 rfl h)
 |exc _ _=>cases h
 |bad=>cases h
end
variable {B h B' h':CL}{μ tB:List CF}{H H':AH}{A:Around}{E Q:CE->CI->Prop}{env:Env}{pos p np:Pos}{prog:Program}{k j q nv:Nat}{ρ ρ':aB}{x:Str}{α β γ:Type}{vs:List AV}{tA cs rest:List CE}{P C it L:CF}{cv cx cy c0 c1 c2 self:CE}{ps conds:ui}{M:Model}{l tg vF target:CJ}{body:List Stmt}{xs:List Str}{K:Frag}{pe elt:PE}{src:AV}{sc:Scope}{one oc:Bool}{fd:FuncData}{st:Stmt}{Γ:Ctx}{ns:List Int}{ao:AO}{fs:List CJ}{u:Tok}{outer:List Env}{ob oe:Obj}{bd ss:tW}{pl:Sem Bool}{os:OsState}
section
set_option autoImplicit true
noncomputable def aaG:tW:=(.cons (.ret (.call 2 (.cons (.attr (.var 0) 4) .nil))) .nil)
noncomputable def aaE:tW:=(.cons (.ret (.bin .sub (.bin .shl (.tm 1) (.var 0)) (.tm 1))) .nil)
noncomputable def qo:tW:=(.cons (.ret (.band (.cons (.cmp (.attr (.var 0) 0) .eq (.attr (.var 1) 0)) (.cons (.cmp (.attr (.var 0) 1) .eq (.attr (.var 1) 1)) (.cons (.cmp (.attr (.var 0) 2) .eq (.attr (.var 1) 2)) .nil))))) .nil)
noncomputable def qn:tW:=(.cons (.ifs (.bor (.cons (.cmp (.attr (.var 0) 3) .ne (.attr (.var 1) 3)) (.cons (.cmp (.attr (.var 0) 4) .ne (.attr (.var 1) 4)) (.cons (.cmp (.bi .len (.cons (.attr (.var 0) 5) .nil)) .ne (.bi .len (.cons (.attr (.var 1) 5) .nil))) .nil)))) (.cons (.ret (.un false)) .nil) .nil) (.cons (.ret (.bi .all (.cons (.comp (.call 3 (.cons (.var 2) (.cons (.var 3) .nil))) [2,3] false (.attr (.var 0) 5) (.cons (.attr (.var 1) 5) .nil) .nil) .nil))) .nil))
noncomputable def p9:tW:=(.cons (.ifs (.bor (.cons (.cmp (.attr (.var 0) 0) .lt (.tm 1)) (.cons (.cmp (.attr (.var 0) 1) .lt (.tm 1)) (.cons (.cmp (.bi .len (.cons (.attr (.var 0) 2) .nil)) .ne (.attr (.var 0) 1)) .nil)))) (.cons (.raise 2) .nil) .nil) (.cons (.assign (.var 2) (.call 2 (.cons (.var 1) .nil))) (.cons (.for [3] true (.attr (.var 0) 2) (.cons (.ifs (.cmp (.bi .len (.cons (.var 3) .nil)) .ne (.attr (.var 0) 0)) (.cons (.raise 2) .nil) .nil) (.cons (.for [4] true (.var 3) (.cons (.ifs (.bor (.cons (.not (.bi .isInt (.cons (.var 4) .nil))) (.cons (.cmp (.var 4) .lt (.tm 0)) (.cons (.cmp (.var 4) .gt (.var 2)) .nil)))) (.cons (.raise 2) .nil) .nil) .nil)) .nil))) .nil)))
noncomputable def pZ:tW:=(.cons (.ifs (.bor (.cons (.cmp (.attr (.var 0) 4) .lt (.tm 2)) (.cons (.cmp (.attr (.var 0) 4) .gt (.tm 16)) (.cons (.cmp (.attr (.var 0) 5) .eq (.list .nil)) .nil)))) (.cons (.raise 2) .nil) .nil) (.cons (.ifs (.cmp (.attr (.var 0) 3) .ne (.tO "raw")) (.cons (.ifs (.cmp (.tT .get (.glob 5) (.cons (.attr (.var 0) 3) (.cons (.tm 0) .nil))) .ne (.bi .len (.cons (.attr (.var 0) 5) .nil))) (.cons (.raise 2) .nil) .nil) (.cons (.assign (.var 1) (.idx (.attr (.var 0) 5) (.tm 0))) (.cons (.for [2] true (.attr (.var 0) 5) (.cons (.ifs (.bor (.cons (.cmp (.attr (.var 2) 0) .ne (.attr (.var 1) 0)) (.cons (.cmp (.attr (.var 2) 1) .ne (.attr (.var 1) 1)) .nil))) (.cons (.raise 2) .nil) .nil) .nil)) .nil))) .nil) (.cons (.for [2] true (.attr (.var 0) 5) (.cons (.expr (.call 5 (.cons (.var 2) (.cons (.attr (.var 0) 4) .nil)))) .nil)) .nil)))
noncomputable def qm:tW:=(.cons (.assign (.var 4) (.list .nil)) (.cons (.for [5] true (.bi .range (.cons (.var 3) .nil)) (.cons (.assign (.var 6) (.list .nil)) (.cons (.for [7] true (.bi .range (.cons (.var 2) .nil)) (.cons (.assign (.var 8) (.bin .add (.bin .mul (.bin .mul (.var 7) (.var 1)) (.var 3)) (.var 5))) (.cons (.expr (.tT .append (.var 6) (.cons (.bi .list (.cons (.slice (.var 0) (.cons (.var 8) .nil) (.cons (.bin .add (.var 8) (.bin .mul (.var 1) (.var 3))) .nil) (.cons (.var 3) .nil)) .nil)) .nil))) .nil))) (.cons (.expr (.tT .append (.var 4) (.cons (.new 0 (.cons (.var 1) (.cons (.var 2) (.cons (.var 6) .nil)))) .nil))) .nil)))) (.cons (.ret (.var 4)) .nil)))
noncomputable def qp:tW:=(.cons (.assign (.var 1) (.list .nil)) (.cons (.for [2] true (.bi .range (.cons (.attr (.idx (.var 0) (.tm 0)) 1) .nil)) (.cons (.for [3] true (.bi .range (.cons (.attr (.idx (.var 0) (.tm 0)) 0) .nil)) (.cons (.for [4] true (.var 0) (.cons (.expr (.tT .append (.var 1) (.cons (.idx (.idx (.attr (.var 4) 2) (.var 2)) (.var 3)) .nil))) .nil)) .nil)) .nil)) (.cons (.ret (.var 1)) .nil)))
noncomputable def jW:tW:=(.cons (.assign (.var 4) (.bin .add (.tm 1) (.bi .int (.cons (.cmp (.var 3) .gt (.tm 8)) .nil)))) (.cons (.ifs (.cmp (.bin .add (.var 1) (.bin .mul (.var 2) (.var 4))) .gt (.bi .len (.cons (.var 0) .nil))) (.cons (.raise 1) .nil) .nil) (.cons (.ifs (.cmp (.var 4) .eq (.tm 1)) (.cons (.assign (.var 5) (.bi .list (.cons (.slice (.var 0) (.cons (.var 1) .nil) (.cons (.bin .add (.var 1) (.var 2)) .nil) .nil) .nil))) .nil) (.cons (.assign (.var 5) (.comp (.bin .add (.bin .mul (.idx (.var 0) (.var 6)) (.tm 256)) (.idx (.var 0) (.bin .add (.var 6) (.tm 1)))) [6] true (.bi .range (.cons (.var 1) (.cons (.bin .add (.var 1) (.bin .mul (.tm 2) (.var 2))) (.cons (.tm 2) .nil)))) .nil .nil)) .nil)) (.cons (.ifs (.cmp (.bi .max (.cons (.var 5) .nil)) .ge (.bin .pow (.tm 2) (.var 3))) (.cons (.raise 2) .nil) .nil) (.cons (.ret (.var 5)) .nil)))))
noncomputable def mX:tW:=(.cons (.ifs (.cmp (.var 1) .le (.tm 8)) (.cons (.ret (.bi .bytes (.cons (.var 0) .nil))) .nil) .nil) (.cons (.assign (.var 2) (.bi .bytearray .nil)) (.cons (.for [3] true (.var 0) (.cons (.expr (.tT .append (.var 2) (.cons (.bin .fdiv (.var 3) (.tm 256)) .nil))) (.cons (.expr (.tT .append (.var 2) (.cons (.bin .mod (.var 3) (.tm 256)) .nil))) .nil))) (.cons (.ret (.bi .bytes (.cons (.var 2) .nil))) .nil))))
noncomputable def aaH:tW:=(.cons (.uU (.band (.cons (.cmp (.var 1) .lt (.bi .len (.cons (.var 0) .nil))) (.cons (.bor (.cons (.cmp (.idx (.var 0) (.var 1)) .isin (.glob 0)) (.cons (.cmp (.idx (.var 0) (.var 1)) .eq (.tm 35)) .nil))) .nil))) (.cons (.ifs (.cmp (.idx (.var 0) (.var 1)) .eq (.tm 35)) (.cons (.uU (.band (.cons (.cmp (.var 1) .lt (.bi .len (.cons (.var 0) .nil))) (.cons (.cmp (.idx (.var 0) (.var 1)) .ne (.tm 10)) .nil))) (.cons (.assign (.var 1) (.bin .add (.var 1) (.tm 1))) .nil)) .nil) (.cons (.assign (.var 1) (.bin .add (.var 1) (.tm 1))) .nil)) .nil)) (.cons (.ret (.var 1)) .nil))
noncomputable def lA:tW:=(.cons (.assign (.var 1) (.call 11 (.cons (.var 0) (.cons (.var 1) .nil)))) (.cons (.assign (.var 2) (.var 1)) (.cons (.uU (.band (.cons (.cmp (.var 2) .lt (.bi .len (.cons (.var 0) .nil))) (.cons (.cmp (.idx (.var 0) (.var 2)) .uo (.glob 0)) (.cons (.cmp (.idx (.var 0) (.var 2)) .ne (.tm 35)) .nil)))) (.cons (.assign (.var 2) (.bin .add (.var 2) (.tm 1))) .nil)) (.cons (.ifs (.cmp (.var 2) .eq (.var 1)) (.cons (.raise 1) .nil) .nil) (.cons (.ret (.tup (.cons (.bi .bytes (.cons (.slice (.var 0) (.cons (.var 1) .nil) (.cons (.var 2) .nil) .nil) .nil)) (.cons (.var 2) .nil)))) .nil)))))
noncomputable def qk:tW:=(.cons (.ifs (.bor (.cons (.cmp (.bi .len (.cons (.var 0) .nil)) .gt (.glob 1)) (.cons (.not (.bi .all (.cons (.comp (.uK (.tm 48) .le (.var 3) .le (.tm 57)) [3] true (.var 0) .nil .nil) .nil))) .nil))) (.cons (.raise 2) .nil) .nil) (.cons (.assign (.var 2) (.tm 0)) (.cons (.for [1] true (.var 0) (.cons (.assign (.var 2) (.bin .sub (.bin .add (.bin .mul (.var 2) (.tm 10)) (.var 1)) (.tm 48))) .nil)) (.cons (.ret (.var 2)) .nil))))
noncomputable def lB:tW:=(.cons (.assign (.var 1) (.tT .ub (.var 0) .nil)) (.cons (.ifs (.bor (.cons (.not (.uK (.tm 2) .le (.var 1) .le (.tm 16))) (.cons (.cmp (.var 0) .ne (.bin .sub (.bin .pow (.tm 2) (.var 1)) (.tm 1))) .nil))) (.cons (.raise 2) .nil) .nil) (.cons (.ret (.var 1)) .nil)))
noncomputable def mW:tW:=(.cons (.ifs (.bor (.cons (.not (.uK (.tm 1) .le (.var 0) .le (.tm 65535))) (.cons (.not (.uK (.tm 1) .le (.var 1) .le (.tm 65535))) .nil))) (.cons (.raise 2) .nil) .nil) .nil)
noncomputable def lC:tW:=(.cons (.assign (.var 1) .uR) (.cons (.assign (.tup [2,3]) (.call 12 (.cons (.var 0) (.cons (.tm 2) .nil)))) (.cons (.uU (.cmp (.var 2) .ne (.tu [69,78,68,72,68,82])) (.cons (.ifs (.bor (.cons (.cmp (.var 2) .isin (.var 1)) (.cons (.band (.cons (.cmp (.var 2) .uo (.glob 2)) (.cons (.cmp (.var 2) .ne (.tu [84,85,80,76,84,89,80,69])) .nil))) .nil))) (.cons (.raise 2) .nil) .nil) (.cons (.assign (.tup [4,3]) (.call 12 (.cons (.var 0) (.cons (.var 3) .nil)))) (.cons (.assign (.sub (.var 1) (.var 2)) (.var 4)) (.cons (.assign (.tup [2,3]) (.call 12 (.cons (.var 0) (.cons (.var 3) .nil)))) .nil))))) (.cons (.ret (.tup (.cons (.var 1) (.cons (.var 3) .nil)))) .nil))))
noncomputable def fV:tW:=(.cons (.ifs (.cmp (.bi .bytes (.cons (.slice (.var 0) .nil (.cons (.tm 2) .nil) .nil) .nil)) .ne (.tu [80,55])) (.cons (.raise 0) .nil) .nil) (.cons (.assign (.tup [1,2]) (.call 16 (.cons (.var 0) .nil))) (.cons (.assign (.var 3) (.list .nil)) (.cons (.for [4] true (.glob 2) (.cons (.ifs (.cmp (.var 4) .uo (.var 1)) (.cons (.raise 2) .nil) .nil) (.cons (.expr (.tT .append (.var 3) (.cons (.call 13 (.cons (.idx (.var 1) (.var 4)) .nil)) .nil))) .nil))) (.cons (.assign (.tup [5,6,7,8]) (.var 3)) (.cons (.expr (.call 15 (.cons (.var 5) (.cons (.var 6) .nil)))) (.cons (.ifs (.bor (.cons (.cmp (.var 7) .uo (.glob 3)) (.cons (.cmp (.tT .get (.var 1) (.cons (.tu [84,85,80,76,84,89,80,69]) (.cons (.idx (.glob 3) (.var 7)) .nil))) .ne (.idx (.glob 3) (.var 7))) .nil))) (.cons (.raise 2) .nil) .nil) (.cons (.assign (.var 9) (.call 14 (.cons (.var 8) .nil))) (.cons (.assign (.var 10) (.call 9 (.cons (.var 0) (.cons (.bin .add (.var 2) (.tm 1)) (.cons (.bin .mul (.bin .mul (.var 5) (.var 6)) (.var 7)) (.cons (.var 9) .nil)))))) (.cons (.ret (.new 1 (.cons (.idx (.glob 4) (.var 7)) (.cons (.var 9) (.cons (.call 7 (.cons (.var 10) (.cons (.var 5) (.cons (.var 6) (.cons (.var 7) .nil))))) .nil))))) .nil))))))))))
noncomputable def iG:tW:=(.cons (.expr (.call 6 (.cons (.var 0) .nil))) (.cons (.assign (.tup [1,2]) (.tup (.cons (.idx (.attr (.var 0) 5) (.tm 0)) (.cons (.bi .len (.cons (.attr (.var 0) 5) .nil)) .nil)))) (.cons (.ifs (.cmp (.tT .get (.glob 4) (.cons (.var 2) .nil)) .ne (.attr (.var 0) 3)) (.cons (.raise 2) .nil) .nil) (.cons (.assign (.var 3) (.list (.cons (.tu [80,55]) .nil))) (.cons (.assign (.var 4) (.list (.cons (.attr (.var 1) 0) (.cons (.attr (.var 1) 1) (.cons (.var 2) (.cons (.most (.var 0)) .nil)))))) (.cons (.for [5] true (.bi .range (.cons (.bi .len (.cons (.glob 2) .nil)) .nil)) (.cons (.expr (.tT .append (.var 3) (.cons (.bin .add (.bin .add (.idx (.glob 2) (.var 5)) (.tu [32])) (.tT .encode (.bi .str (.cons (.idx (.var 4) (.var 5)) .nil)) (.cons (.tO "ascii") .nil))) .nil))) .nil)) (.cons (.assign (.var 3) (.bin .add (.var 3) (.list (.cons (.bin .add (.tu [84,85,80,76,84,89,80,69,32]) (.idx (.glob 3) (.var 2))) (.cons (.tu [69,78,68,72,68,82]) (.cons (.tu []) .nil)))))) (.cons (.ret (.bin .add (.tT .join (.tu [10]) (.cons (.var 3) .nil)) (.call 10 (.cons (.call 8 (.cons (.attr (.var 0) 5) .nil)) (.cons (.attr (.var 0) 4) .nil))))) .nil))))))))
noncomputable def aaF:tW:=(.cons (.assign (.var 1) (.vd (.cmp (.bi .len (.cons (.var 0) .nil)) .gt (.tm 0)) (.bi .int (.cons (.idx (.var 0) (.tm 0)) .nil)) (.tm 0))) (.cons (.assign (.var 2) (.vd (.cmp (.var 1) .ge (.tm 0)) (.var 1) (.bin .sub (.tm 1) (.var 1)))) (.cons (.ret (.list (.cons (.vd (.cmp (.var 2) .ge (.bin .pow (.tm 10) (.tm 18))) (.var 2) (.tm 0)) (.cons (.bin .add (.bin .mul (.bin .mod (.var 2) (.tm 1000003)) (.tm 31)) (.tm 11)) .nil)))) .nil)))
noncomputable def ly:tW:=(.cons (.ifs (.cmp (.idx (.var 0) (.tm 0)) .gt (.tm 0)) (.cons (.assign (.var 2) (.bin .mod (.idx (.var 0) (.tm 0)) (.var 1))) (.cons (.assign (.sub (.var 0) (.tm 0)) (.bin .fdiv (.idx (.var 0) (.tm 0)) (.var 1))) (.cons (.ret (.var 2)) .nil))) .nil) (.cons (.assign (.sub (.var 0) (.tm 1)) (.bin .mod (.bin .add (.bin .mul (.idx (.var 0) (.tm 1)) (.tm 16807)) (.tm 47)) (.tm 2147483647))) (.cons (.ret (.bin .mod (.bin .fdiv (.idx (.var 0) (.tm 1)) (.tm 24)) (.var 1))) .nil)))
noncomputable def qc:tW:=(.cons (.assign (.var 1) (.idx (.list (.cons (.tu [32]) (.cons (.tu [9]) (.cons (.tu [10]) (.cons (.tu [11]) (.cons (.tu [12]) (.cons (.tu [13]) (.cons (.tu [35,10]) (.cons (.tu [35,32,87,73,68,84,72,32,55,32,35,10]) .nil))))))))) (.call 20 (.cons (.var 0) (.cons (.tm 8) .nil))))) (.cons (.ret (.bin .add (.var 1) (.idx (.list (.cons (.tu []) (.cons (.tu [32]) (.cons (.tu [13,10]) (.cons (.tu [35,120,10]) .nil))))) (.call 20 (.cons (.var 0) (.cons (.tm 4) .nil)))))) .nil))
noncomputable def qf:tW:=(.cons (.assign (.var 2) (.idx (.list (.cons (.tm 1) (.cons (.tm 3) (.cons (.tm 4) .nil)))) (.call 20 (.cons (.var 0) (.cons (.tm 3) .nil))))) (.cons (.assign (.tup [3,4,5]) (.tup (.cons (.bin .add (.tm 1) (.call 20 (.cons (.var 0) (.cons (.tm 3) .nil)))) (.cons (.bin .add (.tm 1) (.call 20 (.cons (.var 0) (.cons (.tm 3) .nil)))) (.cons (.list .nil) .nil))))) (.cons (.assign (.var 6) (.list (.cons (.tm 0) (.cons (.tm 1) (.cons (.tm 10) (.cons (.tm 32) (.cons (.tm 35) (.cons (.bin .sub (.bin .pow (.tm 2) (.var 1)) (.tm 1)) (.cons (.bin .fdiv (.bin .pow (.tm 2) (.var 1)) (.tm 3)) .nil))))))))) (.cons (.for [7] true (.bi .range (.cons (.var 2) .nil)) (.cons (.assign (.var 8) (.comp (.comp (.bi .min (.cons (.idx (.var 6) (.call 20 (.cons (.var 0) (.cons (.tm 7) .nil)))) (.cons (.bin .sub (.bin .pow (.tm 2) (.var 1)) (.tm 1)) .nil))) [10] true (.bi .range (.cons (.var 3) .nil)) .nil .nil) [9] true (.bi .range (.cons (.var 4) .nil)) .nil .nil)) (.cons (.expr (.tT .append (.var 5) (.cons (.new 0 (.cons (.var 3) (.cons (.var 4) (.cons (.var 8) .nil)))) .nil))) .nil))) (.cons (.ret (.new 1 (.cons (.idx (.list (.cons (.tO "grey") (.cons (.tO "") (.cons (.tO "rgb") (.cons (.tO "cmyk") .nil))))) (.bin .sub (.var 2) (.tm 1))) (.cons (.var 1) (.cons (.var 5) .nil))))) .nil)))))
noncomputable def qj:tW:=(.cons (.assign (.tup [2,3]) (.tup (.cons (.idx (.attr (.var 1) 5) (.tm 0)) (.cons (.bi .len (.cons (.attr (.var 1) 5) .nil)) .nil)))) (.cons (.assign (.var 4) (.list (.cons (.tup (.cons (.tu [87,73,68,84,72]) (.cons (.attr (.var 2) 0) .nil))) (.cons (.tup (.cons (.tu [72,69,73,71,72,84]) (.cons (.attr (.var 2) 1) .nil))) (.cons (.tup (.cons (.tu [68,69,80,84,72]) (.cons (.var 3) .nil))) (.cons (.tup (.cons (.tu [77,65,88,86,65,76]) (.cons (.bin .sub (.bin .pow (.tm 2) (.attr (.var 1) 4)) (.tm 1)) .nil))) .nil)))))) (.cons (.assign (.var 5) (.comp (.tup (.cons (.var 7) (.cons (.tT .encode (.bi .str (.cons (.var 8) .nil)) (.cons (.tO "ascii") .nil)) .nil))) [7,8] false (.var 4) .nil .nil)) (.cons (.ifs (.cmp (.call 20 (.cons (.var 0) (.cons (.tm 3) .nil))) .gt (.tm 0)) (.cons (.expr (.tT .append (.var 5) (.cons (.tup (.cons (.tu [84,85,80,76,84,89,80,69]) (.cons (.idx (.list (.cons (.tu [71,82,65,89,83,67,65,76,69]) (.cons (.tu []) (.cons (.tu [82,71,66]) (.cons (.tu [67,77,89,75]) .nil))))) (.bin .sub (.var 3) (.tm 1))) .nil))) .nil))) .nil) .nil) (.cons (.assign (.var 6) (.call 20 (.cons (.var 0) (.cons (.bi .len (.cons (.var 5) .nil)) .nil)))) (.cons (.ret (.bin .add (.slice (.var 5) (.cons (.var 6) .nil) .nil .nil) (.slice (.var 5) .nil (.cons (.var 6) .nil) .nil))) .nil))))))
noncomputable def qd:tW:=(.cons (.assign (.tup [2,3]) (.tup (.cons (.tu [80,55]) (.cons (.list .nil) .nil)))) (.cons (.for [4,5] false (.bin .add (.var 1) (.list (.cons (.tup (.cons (.tu [69,78,68,72,68,82]) (.cons (.tu []) .nil))) .nil))) (.cons (.for [6] true (.slice (.list (.cons (.var 4) (.cons (.var 5) .nil))) .nil (.cons (.bin .add (.tm 1) (.bi .int (.cons (.cmp (.var 4) .ne (.tu [69,78,68,72,68,82])) .nil))) .nil) .nil) (.cons (.assign (.var 7) (.call 21 (.cons (.var 0) .nil))) (.cons (.expr (.tT .append (.var 3) (.cons (.tup (.cons (.bin .add (.bi .len (.cons (.var 2) .nil)) (.bi .len (.cons (.var 7) .nil))) (.cons (.bin .add (.bin .add (.bi .len (.cons (.var 2) .nil)) (.bi .len (.cons (.var 7) .nil))) (.bi .len (.cons (.var 6) .nil))) .nil))) .nil))) (.cons (.assign (.var 2) (.bin .add (.bin .add (.var 2) (.var 7)) (.var 6))) .nil)))) .nil)) (.cons (.ret (.tup (.cons (.bin .add (.var 2) (.idx (.list (.cons (.tu [32]) (.cons (.tu [9]) (.cons (.tu [10]) (.cons (.tu [11]) (.cons (.tu [12]) (.cons (.tu [13]) (.cons (.tu [35]) .nil)))))))) (.call 20 (.cons (.var 0) (.cons (.tm 7) .nil))))) (.cons (.var 3) .nil)))) .nil)))
noncomputable def qh:tW:=(.cons (.assign (.tup [1,2]) (.tup (.cons (.tu []) (.cons (.vd (.cmp (.attr (.var 0) 4) .lt (.tm 9)) (.tm 1) (.tm 2)) .nil)))) (.cons (.assign (.var 3) (.idx (.attr (.var 0) 5) (.tm 0))) (.cons (.for [4] true (.bi .range (.cons (.attr (.var 3) 1) .nil)) (.cons (.for [5] true (.bi .range (.cons (.attr (.var 3) 0) .nil)) (.cons (.for [6] true (.attr (.var 0) 5) (.cons (.assign (.var 1) (.bin .add (.var 1) (.tT .toBytes (.idx (.idx (.attr (.var 6) 2) (.var 4)) (.var 5)) (.cons (.var 2) (.cons (.tO "big") .nil))))) .nil)) .nil)) .nil)) (.cons (.ret (.var 1)) .nil))))
noncomputable def qg:tW:=(.cons (.vR (.call 17 (.cons (.var 0) .nil)) (.cons 1 (.cons (.ret (.tO "cut")) .nil) (.cons 0 (.cons (.ret (.tO "mark")) .nil) (.cons 2 (.cons (.ret (.tO "range")) .nil) .nil)))) (.cons (.ret (.tO "")) .nil))
noncomputable def qa:tW:=(.cons (.ifs (.cmp (.var 1) .lt (.tm 2)) (.cons (.ret (.tO "mark")) .nil) .nil) (.cons (.assign (.var 2) (.comp (.var 3) [3] true (.bi .range (.cons (.bi .len (.cons (.var 0) .nil)) .nil)) .nil (.cons (.cmp (.idx (.idx (.var 0) (.var 3)) (.tm 0)) .lt (.var 1)) .nil))) (.cons (.ifs (.band (.cons (.cmp (.var 2) .ne (.list .nil)) (.cons (.cmp (.bin .mod (.idx (.var 2) (.neg (.tm 1))) (.tm 2)) .eq (.tm 0)) (.cons (.cmp (.idx (.idx (.var 0) (.idx (.var 2) (.neg (.tm 1)))) (.tm 1)) .gt (.var 1)) .nil)))) (.cons (.ret (.tO "range")) .nil) .nil) (.cons (.ret (.tO "cut")) .nil))))
noncomputable def lz:tW:=(.cons (.assign (.var 3) (.list (.cons (.tup (.cons (.tu [87,73,68,84,72]) (.cons (.list (.cons (.tu [48]) (.cons (.tu [54,53,53,51,54]) (.cons (.tu [57,57,57,57,57,57,57,57,57]) .nil)))) .nil))) (.cons (.tup (.cons (.tu [72,69,73,71,72,84]) (.cons (.list (.cons (.tu [48]) (.cons (.tu [54,53,53,51,54]) (.cons (.tu [55,48,48,48,48]) .nil)))) .nil))) (.cons (.tup (.cons (.tu [68,69,80,84,72]) (.cons (.list (.cons (.tu [48]) (.cons (.tu [50]) (.cons (.tu [53]) .nil)))) .nil))) .nil))))) (.cons (.assign (.tup [4,5]) (.idx (.bin .add (.var 3) (.list (.cons (.tup (.cons (.tu [77,65,88,86,65,76]) (.cons (.list (.cons (.tu [48]) (.cons (.tu [49]) (.cons (.tu [49,51,49,48,55,49]) (.cons (.tu [50]) (.cons (.tu [54]) (.cons (.tu [50,53,52]) (.cons (.tu [54,53,53,51,52]) .nil)))))))) .nil))) .nil))) (.call 20 (.cons (.var 0) (.cons (.tm 4) .nil))))) (.cons (.assign (.var 6) (.idx (.var 5) (.call 20 (.cons (.var 0) (.cons (.bi .len (.cons (.var 5) .nil)) .nil))))) (.cons (.assign (.var 7) (.idx (.call 24 (.cons (.var 0) (.cons (.comp (.tup (.cons (.var 13) (.cons (.vd (.cmp (.var 13) .eq (.var 4)) (.var 6) (.var 14)) .nil))) [13,14] false (.var 1) .nil .nil) .nil))) (.tm 0))) (.cons (.ifs (.cmp (.call 26 (.cons (.bin .add (.var 7) (.bin .mul (.call 25 (.cons (.var 2) .nil)) (.tm 9))) .nil)) .ne (.tO "range")) (.cons (.ret (.un false)) .nil) .nil) (.cons (.ifs (.cmp (.attr (.var 2) 4) .isin (.tup (.cons (.tm 8) (.cons (.tm 16) .nil)))) (.cons (.ret (.un true)) .nil) .nil) (.cons (.assign (.var 8) (.call 25 (.cons (.var 2) .nil))) (.cons (.assign (.var 9) (.vd (.cmp (.attr (.var 2) 4) .lt (.tm 9)) (.tm 1) (.tm 2))) (.cons (.assign (.var 10) (.bin .mul (.var 9) (.call 20 (.cons (.var 0) (.cons (.bin .fdiv (.bi .len (.cons (.var 8) .nil)) (.var 9)) .nil))))) (.cons (.assign (.var 11) (.bin .sub (.bin .pow (.tm 256) (.var 9)) (.tm 1))) (.cons (.assign (.var 12) (.tT .toBytes (.idx (.list (.cons (.bin .pow (.tm 2) (.attr (.var 2) 4)) (.cons (.var 11) .nil))) (.call 20 (.cons (.var 0) (.cons (.tm 2) .nil)))) (.cons (.var 9) (.cons (.tO "big") .nil)))) (.cons (.ret (.cmp (.call 26 (.cons (.bin .add (.bin .add (.bin .add (.idx (.call 24 (.cons (.var 0) (.cons (.var 1) .nil))) (.tm 0)) (.slice (.var 8) .nil (.cons (.var 10) .nil) .nil)) (.var 12)) (.slice (.var 8) (.cons (.bin .add (.var 10) (.var 9)) .nil) .nil .nil)) .nil)) .eq (.tO "range"))) .nil))))))))))))
noncomputable def qe:tW:=(.cons (.assign (.var 1) (.comp (.comp (.bi .list (.cons (.var 3) .nil)) [3] true (.attr (.var 2) 2) .nil .nil) [2] true (.attr (.var 0) 5) .nil .nil)) (.cons (.vR (.call 18 (.cons (.var 0) .nil)) (.cons 2 (.cons (.ret (.cmp (.comp (.attr (.var 4) 2) [4] true (.attr (.var 0) 5) .nil .nil) .eq (.var 1))) .nil) .nil)) (.cons (.ret (.un false)) .nil)))
noncomputable def iF:tW:=(.cons (.assign (.tup [2,8,7]) (.tup (.cons (.attr (.var 1) 4) (.cons (.attr (.idx (.attr (.var 1) 5) (.tm 0)) 0) (.cons (.attr (.idx (.attr (.var 1) 5) (.tm 0)) 1) .nil))))) (.cons (.defn 3 41) (.cons (.assign (.var 4) (.list (.cons (.new 1 (.cons (.tO "ycc") (.cons (.var 2) (.cons (.list (.cons (.tH 3 [8,7]) (.cons (.tH 3 [8,7]) (.cons (.tH 3 [8,7]) .nil)))) .nil)))) (.cons (.new 1 (.cons (.tO "ycck") (.cons (.var 2) (.cons (.list (.cons (.tH 3 [8,7]) (.cons (.tH 3 [8,7]) (.cons (.tH 3 [8,7]) (.cons (.tH 3 [8,7]) .nil))))) .nil)))) .nil)))) (.cons (.assign (.var 4) (.bin .add (.var 4) (.list (.cons (.new 1 (.cons (.tO "raw") (.cons (.var 2) (.cons (.list (.cons (.tH 3 [8,7]) .nil)) .nil)))) (.cons (.new 1 (.cons (.tO "raw") (.cons (.var 2) (.cons (.list (.cons (.tH 3 [8,7]) (.cons (.tH 3 [8,7]) (.cons (.tH 3 [8,7]) .nil)))) .nil)))) (.cons (.new 1 (.cons (.tO "rgb") (.cons (.var 2) (.cons (.list (.cons (.tH 3 [8,7]) .nil)) .nil)))) .nil)))))) (.cons (.assign (.var 4) (.bin .add (.var 4) (.list (.cons (.new 1 (.cons (.tO "rgb") (.cons (.var 2) (.cons (.list (.cons (.tH 3 [8,7]) (.cons (.tH 3 [8,7]) (.cons (.new 0 (.cons (.bin .add (.var 8) (.tm 1)) (.cons (.var 7) (.cons (.comp (.bin .mul (.list (.cons (.tm 0) .nil)) (.bin .add (.var 8) (.tm 1))) [9] true (.bi .range (.cons (.var 7) .nil)) .nil .nil) .nil)))) .nil)))) .nil)))) .nil)))) (.cons (.assign (.var 4) (.bin .add (.var 4) (.list (.cons (.new 1 (.cons (.tO "grey") (.cons (.tm 1) (.cons (.list (.cons (.tH 3 [8,7]) .nil)) .nil)))) (.cons (.new 1 (.cons (.tO "grey") (.cons (.tm 17) (.cons (.list (.cons (.tH 3 [8,7]) .nil)) .nil)))) (.cons (.new 1 (.cons (.tO "grey") (.cons (.var 2) (.cons (.list .nil) .nil)))) .nil)))))) (.cons (.assign (.var 5) (.tH 3 [8,7])) (.cons (.assign (.sub (.idx (.attr (.var 5) 2) (.call 20 (.cons (.var 0) (.cons (.var 7) .nil)))) (.call 20 (.cons (.var 0) (.cons (.var 8) .nil)))) (.idx (.list (.cons (.neg (.tm 1)) (.cons (.bin .pow (.tm 2) (.var 2)) .nil))) (.call 20 (.cons (.var 0) (.cons (.tm 2) .nil))))) (.cons (.assign (.var 6) (.tH 3 [8,7])) (.cons (.expr (.tT .pop (.idx (.attr (.var 6) 2) (.neg (.tm 1))) .nil)) (.cons (.assign (.var 4) (.bin .add (.var 4) (.list (.cons (.new 1 (.cons (.tO "grey") (.cons (.var 2) (.cons (.list (.cons (.var 5) .nil)) .nil)))) (.cons (.new 1 (.cons (.tO "grey") (.cons (.var 2) (.cons (.list (.cons (.var 6) .nil)) .nil)))) .nil))))) (.cons (.ret (.cmp (.un false) .uo (.comp (.call 29 (.cons (.var 10) .nil)) [10] true (.var 4) .nil .nil))) .nil))))))))))))
noncomputable def ig:tW:=(.cons (.ret (.new 0 (.cons (.var 0) (.cons (.var 1) (.cons (.comp (.bin .mul (.list (.cons (.tm 1) .nil)) (.var 0)) [2] true (.bi .range (.cons (.var 1) .nil)) .nil .nil) .nil))))) .nil)
noncomputable def lx:tW:=(.cons (.assign (.var 1) (.call 19 (.cons (.var 0) .nil))) (.cons (.assign (.var 2) (.bin .add (.tm 2) (.call 20 (.cons (.var 1) (.cons (.tm 15) .nil))))) (.cons (.assign (.var 3) (.call 22 (.cons (.var 1) (.cons (.var 2) .nil)))) (.cons (.assign (.var 4) (.call 23 (.cons (.var 1) (.cons (.var 3) .nil)))) (.cons (.assign (.tup [5,6]) (.call 24 (.cons (.var 1) (.cons (.var 4) .nil)))) (.cons (.assign (.var 7) (.bin .add (.var 5) (.call 25 (.cons (.var 3) .nil)))) (.cons (.ifs (.bor (.cons (.not (.call 4 (.cons (.call 17 (.cons (.var 7) .nil)) (.cons (.var 3) .nil)))) (.cons (.not (.call 4 (.cons (.call 17 (.cons (.call 18 (.cons (.var 3) .nil)) .nil)) (.cons (.var 3) .nil)))) .nil))) (.cons (.ret (.un false)) .nil) .nil) (.cons (.for [8] true (.bi .range (.cons (.tm 10) .nil)) (.cons (.assign (.var 9) (.vd (.cmp (.var 8) .gt (.tm 1)) (.call 20 (.cons (.var 1) (.cons (.bi .len (.cons (.var 7) .nil)) .nil))) (.var 8))) (.cons (.ifs (.cmp (.call 26 (.cons (.slice (.var 7) .nil (.cons (.var 9) .nil) .nil) .nil)) .ne (.call 27 (.cons (.var 6) (.cons (.var 9) .nil)))) (.cons (.ret (.un false)) .nil) .nil) .nil))) (.cons (.ret (.band (.cons (.call 28 (.cons (.var 1) (.cons (.var 4) (.cons (.var 3) .nil)))) (.cons (.call 30 (.cons (.var 1) (.cons (.var 3) .nil))) .nil)))) .nil)))))))))
def ahD:Nat->Option (Nat×Nat×tW)
 |40=>some (1,1,aaG)
 |2=>some (1,1,aaE)
 |3=>some (2,2,qo)
 |4=>some (2,4,qn)
 |5=>some (2,5,p9)
 |6=>some (1,3,pZ)
 |7=>some (4,9,qm)
 |8=>some (1,5,qp)
 |9=>some (4,7,jW)
 |10=>some (2,4,mX)
 |11=>some (2,2,aaH)
 |12=>some (2,3,lA)
 |13=>some (1,4,qk)
 |14=>some (1,2,lB)
 |15=>some (2,2,mW)
 |16=>some (1,5,lC)
 |17=>some (1,11,fV)
 |18=>some (1,6,iG)
 |19=>some (1,3,aaF)
 |20=>some (2,3,ly)
 |21=>some (1,2,qc)
 |22=>some (2,11,qf)
 |23=>some (2,9,qj)
 |24=>some (2,8,qd)
 |25=>some (1,7,qh)
 |26=>some (1,1,qg)
 |27=>some (2,4,qa)
 |28=>some (3,15,lz)
 |29=>some (1,5,qe)
 |30=>some (2,11,iF)
 |41=>some (2,3,ig)
 |31=>some (1,10,lx)
 |_=>none
def dK(k:Nat):Option (Nat×Nat×tW):=if k<42 then ahD k else none
def run:Nat->Nat->List AV->AH->R AV
 |0,_,_,_=>.bad
 |n+1,k,vs,H=>match dK k with
  |some (np,nv,b)=>if vs.length=np then(CK ⟨run n,100000,false⟩ b (vs++CR (nv-np) .undef) H).bind λfl H=>match fl with
    | .ret v=>.ok v H
    | .next _=>.ok .none H
   else .bad
  |none=>.bad
theorem kJ{n:Nat}:run (n+1) k vs H=(match dK k with
  |some (np,nv,b)=>if vs.length=np then(CK ⟨run n,100000,false⟩ b (vs++CR (nv-np) .undef) H).bind λfl H=>match fl with
    | .ret v=>.ok v H
    | .next _=>.ok .none H
   else .bad
  |none=>.bad):=rfl
end
section
open Classical in
noncomputable def gX(h:CL)(p:CF->Prop):CL:=hideAll h ((CS h.objs.size).filter λa=>decide (¬p a))
theorem cP{p:CF->Prop}{a:CF}{o:Obj}:(gX h p).get? a=some o↔h.get? a=some o/\p a:=by
 classical
 unfold gX;constructor
 ·intro e;have e':=of_hideAll _ e;refine⟨e',Classical.byContradiction λhn=>?_⟩;have hm:a∈(CS h.objs.size).filter λa=>decide (¬p a):=by
   rw[Jp];exact⟨Fq.mpr (Dh e'),by simpa using hn⟩
  rw[hideAll_none _ hm] at e;cases e
 ·rintro⟨e,hp⟩;refine hideAll_get _ e λhm=>?_;rw[Jp] at hm;simp only[C9] at hm;exact hm.2 hp
theorem oV{p:CF->Prop}{a:CF}(hn:¬p a):(gX h p).get? a=none:=by
 cases q:(gX h p).get? a with
 |none=>rfl
 |some o=>exact CP (cP.mp q).2 hn
noncomputable def bO:Nat->CF
 |0=>109
 |_=>147
noncomputable def bt:Nat->Nat->Str
 |0,0=>"width" |0,1=>"height" |0,_=>"rows"
 |_,0=>"model" |_,1=>"precision" |_,_=>"planes"
noncomputable def ee:Nat->CF
 |3=>251
 |4=>252
 |_=>78
structure Fits(od:Obj)(c:Nat)(c0 c1 c2:CE):Prop where
 f0:lookIn (bt c 0) od=some (some c0)
 f1:lookIn (bt c 1) od=some (some c1)
 f2:lookIn (bt c 2) od=some (some c2)
 most:lookIn "most" od=some none
structure u7(B:CL)(c:Nat)(x:CF)(c0 c1 c2:CE):Prop where
 at_:∃ox d od,B.get? x=some ox/\ox.cls=.ref (bO c)/\ox.dict=some d/\notCls ox=true/\B.get? d=some od/\Fits od c c0 c1 c2
theorem u7.mono{c:Nat}{x:CF}(h:u7 B c x c0 c1 c2)(hB:B.StaysIn B'):u7 B' c x c0 c1 c2:=let⟨⟨ox,d,od,h1,h2,h3,h4,h5,h6⟩⟩:=h;⟨(ce ox d od (hB _ _ h1) h2 h3 (bT h4 (hB _ _ h5) h6))⟩
mutual
inductive VR(B:CL)(μ:List CF):AV->CE->Prop where
 |none:VR B μ .none .none
 |bool (b:Bool):VR B μ (.bool b) (.bool b)
 |int (i:Int) (t:Tok):VR B μ (.int i) (.int i t)
 |str (s:Str) (t:Tok):VR B μ (.str s) (.str s t)
 |bytes (b:List UInt8) (t:Tok) (hs:b.length<=al):VR B μ (.bytes b) (.bytes b.toArray t)
 |ref (i:Nat) (a:CF) (h:μ[i]?=some a):VR B μ (.ref i) (.ref a)
 |tup (vs:List AV) (a:CF) (tA:List CE) (h:B.get? a=some {cls:=.type "tuple",data:=.seq tA.toArray}) (hv:tK B μ vs tA):VR B μ (.tup vs) (.ref a)
 |inst (c:Nat) (x:CF) (v0 v1 v2:AV) (c0 c1 c2:CE) (h:u7 B c x c0 c1 c2) (A6:VR B μ v0 c0) (zm:VR B μ v1 c1) (zN:VR B μ v2 c2):VR B μ (.inst c [v0,v1,v2]) (.ref x)
 |tX (ns:List Int) (a:CF) (tA:List CE) (h:B.IsList a tA.toArray) (hv:IntsAre tA ns) (hs:ns.length<=al):VR B μ (.tX ns) (.ref a)
 |uV (a b c:Int) (r:CF) (t u v:Tok) (h:IsRange B r a b c t u v) (hs:GU a b c=true) (hc:0<c):VR B μ (.uV a b c) (.ref r)
 |gd (k:Nat) (hk:3<=k):VR B μ (.gd k) (.ref (ee k))
inductive tK(B:CL)(μ:List CF):List AV->List CE->Prop where
 |nil:tK B μ [] []
 |cons {v:AV} {c:CE} {vs:List AV} {cs:List CE} (h:VR B μ v c) (hs:tK B μ vs cs):tK B μ (v::vs) (c::cs)
end
def Pre(μ tB:List CF):Prop:=∀(i:Nat)(a:CF),μ[i]?=some a->tB[i]?=some a
theorem Pre.refl(μ:List CF):Pre μ μ:=λZ Z h=>h
theorem Pre.trans{a b c:List CF}(x:Pre a b)(y:Pre b c):Pre a c:=λi z h=>y i z (x i z h)
theorem Pre.snoc(μ:List CF)(a:CF):Pre μ (μ++[a]):=λi b h=>by rw[Ee (List.getElem?_eq_some_iff.mp h).1];exact h
section
theorem VR.mono(hB:B.StaysIn B')(tQ:Pre μ tB){v:AV}{c:CE}(h:VR B μ v c):VR B' tB v c:=
 VR.rec (motive_1:=λv c Z=>VR B' tB v c) (motive_2:=λvs cs Z=>tK B' tB vs cs) .none .bool .int .str .bytes (λi a h=>.ref i a (tQ i a h)) (λvs a tA h Z hv=>.tup vs a tA (hB _ _ h) hv)
  (λc x v0 v1 v2 c0 c1 c2 h Z Z Z h0 h1 h2=>.inst c x v0 v1 v2 c0 c1 c2 (h.mono hB) h0 h1 h2) (λns a tA h hv hs=>.tX ns a tA (o_ea h λo h1 h2=>(ae o (hB _ _ h1) h2)) hv hs) (λa b c r t u v h hs hc=>.uV a b c r t u v (hB _ _ h) hs hc) .gd .nil (λZ Z h hs=>.cons h hs) h
theorem tK.mono(hB:B.StaysIn B')(tQ:Pre μ tB)(h:tK B μ vs cs):tK B' tB vs cs:=
 tK.rec (motive_1:=λZ Z Z=>True) (motive_2:=λvs cs Z=>tK B' tB vs cs) trivial (λZ=>trivial) (λZ Z=>trivial) (λZ Z=>trivial) (λZ Z Z=>trivial) (λZ Z Z=>trivial) (λZ Z Z Z Z Z=>trivial)
  (λZ Z Z Z Z Z Z Z Z Z Z Z Z Z Z=>trivial) (λZ Z Z Z Z Z=>trivial) (λZ Z Z Z Z Z Z Z Z Z=>trivial) (λZ Z=>trivial) .nil (λh Z Z hs=>.cons (h.mono hB tQ) hs) h
end
section
def VRv(B:CL)(μ:List CF)(cv:CE):AV->Prop
 | .none=>cv=.none
 | .bool b=>cv=.bool b
 | .int i=>∃t,cv=.int i t
 | .str i=>∃t,cv=.str i t
 | .bytes b=>∃t,cv=.bytes b.toArray t/\b.length<=al
 | .ref i=>∃a,cv=.ref a/\μ[i]?=some a
 | .tup vs=>∃a tA,cv=.ref a/\B.get? a=some {cls:=.type "tuple",data:=.seq tA.toArray}/\tK B μ vs tA
 | .inst c vs=>∃x v0 v1 v2 c0 c1 c2,cv=.ref x/\vs=[v0,v1,v2]/\u7 B c x c0 c1 c2/\VR B μ v0 c0/\VR B μ v1 c1/\VR B μ v2 c2
 | .tX ns=>∃a tA,cv=.ref a/\B.IsList a (Dg tA)/\IntsAre tA ns/\ns.length<=al
 | .uV a b c=>∃r t u v,cv=.ref r/\IsRange B r a b c t u v/\GU a b c=true/\0<c
 | .gd k=>cv=.ref (ee k)/\3<=k
 | .undef=>False
 | .fn k=>False
theorem VR.v{v:AV}(h:VR B μ v cv):VRv B μ cv v:=by
 cases h with
 |none=>rfl
 |bool=>rfl
 |int i t=>exact⟨t,rfl⟩
 |str i t=>exact⟨t,rfl⟩
 |bytes b t h=>exact⟨t,rfl,h⟩
 |ref i a h=>exact⟨a,rfl,h⟩
 |tup vs a tA h1 h2=>exact ax a tA rfl h1 h2
 |inst c x v0 v1 v2 c0 c1 c2 h h0 h1 h2=>exact dU x v0 v1 v2 c0 c1 (gb c2 rfl rfl h h0 h1 h2)
 |tX ns a tA h1 h2 h3=>exact jx a tA rfl h1 h2 h3
 |uV a b c r t u v h1 h2 h3=>exact ef r t u v rfl h1 (bE h2 h3)
 |gd k h=>exact⟨rfl,h⟩
theorem VR.n(h:VR B μ .none cv):cv=.none:=h.v
theorem VR.b{b:Bool}(h:VR B μ (.bool b) cv):cv=.bool b:=h.v
theorem VR.i{i:Int}(h:VR B μ (.int i) cv):∃t,cv=.int i t:=h.v
theorem VR.s{i:Str}(h:VR B μ (.str i) cv):∃t,cv=.str i t:=h.v
theorem VR.y{b:List UInt8}(h:VR B μ (.bytes b) cv):∃t,cv=.bytes b.toArray t/\b.length<=al:=h.v
theorem VR.r{i:Nat}(h:VR B μ (.ref i) cv):∃a,cv=.ref a/\μ[i]?=some a:=h.v
theorem VR.t(h:VR B μ (.tup vs) cv):∃a tA,cv=.ref a/\B.get? a=some {cls:=.type "tuple",data:=.seq tA.toArray}/\tK B μ vs tA:=h.v
theorem VR.o{c:Nat}(h:VR B μ (.inst c vs) cv):∃x v0 v1 v2 c0 c1 c2,cv=.ref x/\vs=[v0,v1,v2]/\u7 B c x c0 c1 c2/\VR B μ v0 c0/\VR B μ v1 c1/\VR B μ v2 c2:=h.v
theorem VR.f(h:VR B μ (.tX ns) cv):∃a tA,cv=.ref a/\B.IsList a (Dg tA)/\IntsAre tA ns/\ns.length<=al:=h.v
theorem VR.g{a b c:Int}(h:VR B μ (.uV a b c) cv):∃r t u v,cv=.ref r/\IsRange B r a b c t u v/\GU a b c=true/\0<c:=h.v
theorem VR.d(h:VR B μ (.gd k) cv):cv=.ref (ee k)/\3<=k:=h.v
theorem tK.n(h:tK B μ [] cs):cs=[]:=by cases h;rfl
theorem tK.c{v:AV}(h:tK B μ (v::vs) cs):∃c r,cs=c::r/\VR B μ v c/\tK B μ vs r:=by cases h;exact(ax _ _ rfl ‹_› ‹_›)
theorem tK.o1{v:AV}(h:tK B μ [v] cs):∃c,cs=[c]/\VR B μ v c:=by(obtain⟨c,r,zq2,h1,h2⟩:=(h.c);clear h;subst zq2);rw[h2.n];exact(ae c rfl h1)
theorem tK.o2{v w:AV}(h:tK B μ [v,w] cs):∃c d,cs=[c,d]/\VR B μ v c/\VR B μ w d:=by obtain⟨c,r,rfl,h1,h2⟩:=(h.c);(obtain⟨d,zq1,h3⟩:=(h2.o1);clear h2 h;subst zq1);exact(ax c d rfl h1 h3)
end
theorem tK.length:∀{vs:List AV}{cs:List CE},tK B μ vs cs->cs.length=vs.length:=by
 intro zi
 induction zi with
 |nil=>
 exact @λZ h=>by rw[h.n];rfl
 |cons Z Z ih=>
 exact @λZ h=>by(obtain⟨_,_,zq2,_,hs⟩:=(h.c);clear h;subst zq2);exact CN (·+1) (ih hs)
theorem tK.get:∀{vs:List AV}{cs:List CE},tK B μ vs cs->∀{i:Nat}{v:AV},vs[i]?=some v->∃c,cs[i]?=some c/\VR B μ v c:=by
 intro zi
 induction zi with
 |nil=>
 exact @λZ Z i v e=>by simp at e
 |cons Z Z ih=>
 exact @λZ h i v e=>by
  (obtain⟨_,_,zq2,h1,hs⟩:=(h.c);clear h;subst zq2)
  cases i with
  |zero=>cases e;exact(ae _ rfl h1)
  |succ i=>exact ih hs (i:=i) e
theorem tK.append{B:CL}{μ:List CF}:∀{vs ws:List AV}{cs ds:List CE},tK B μ vs cs->tK B μ ws ds->tK B μ (vs++ws) (cs++ds)
 |[],_,_,_,h,h'=>by rw[h.n];exact h'
 |_::_,_,_,_,h,h'=>by(obtain⟨_,_,zq2,h1,hs⟩:=(h.c);clear h;subst zq2);exact .cons h1 (tK.append hs h')
def OR(B:CL)(μ:List CF)(prog:Program)(w:CW):AO->Obj->Prop
 | .list xs,o=>∃tA n,o={cls:=.type "list",data:=.seq (Dg tA) n}/\tK B μ xs tA/\xs.length<=al
 | .dict es,o=>∃kvs,o.IsDictOf (bytesKind prog w) kvs/\kvs.map (·.1)=es.map (·.1)/\tK B μ (es.map (·.2)) (kvs.map (·.2))/\es.length<=2000
 | .uv b,o=>o={cls:=.type "bytearray",data:=.bytearray b.toArray 0}/\b.length<=al
theorem OR.mono{w:CW}(hB:B.StaysIn B')(tQ:Pre μ tB){a:AO}{o:Obj}(h:OR B μ prog w a o):OR B' tB prog w a o:=by
 cases a with
 |list xs=>obtain⟨tA,n,h3,h4,h5⟩:=h;exact(ax tA n h3 (h4.mono hB tQ) h5)
 |dict es=>obtain⟨kvs,h1,h2,h3,h4⟩:=h;exact(cY kvs h1 h2 (h3.mono hB tQ) h4)
 |uv b=>exact h
def d6(o:Obj):Prop:=∃vs,o.data=.fields vs
def Ex(o:Obj):Prop:=d6 o\/∃xs n,o.data=.seq xs n
abbrev tD:=CF->Obj->Prop
structure Inv(prog:Program)(w:CW)(B:CL)(U:tD)(μ:List CF)(H:AH)(h:CL):Prop where
 base:B.StaysIn h
 us:∀a o,U a o->B.get? a=none/\a∉μ/\∃sl,h.get? a=some {o with slots:=sl}/\(Ex o->sl=o.slots)
 nodup:μ.Nodup
 fresh:∀a∈μ,B.get? a=none
 len:μ.length=H.length
 objs:∀(i:Nat)(a:CF)(o:AO),μ[i]?=some a->H[i]?=some o->∃ob,h.get? a=some ob/\OR B μ prog w o ob/\¬d6 ob
section
variable {w:CW}{U:tD}
theorem Inv.lt(I:Inv prog w B U μ H h){a:CF}(ha:a∈μ):a<h.objs.size:=by obtain⟨i,hi⟩:=Eg.mp ha;have hl:i<H.length:=I.len▸(List.getElem?_eq_some_iff.mp hi).1;obtain⟨ob,wQ,_⟩:=I.objs i a H[i] hi (List.getElem?_eq_getElem hl);exact Dh wQ
theorem Inv.zO(I:Inv prog w B U μ H h){a:CF}{o:Obj}(ha:U a o):a<h.objs.size:=by refine o_aaea (I.us a o ha) λZ Z sl e Z=>?_;exact Dh e
theorem Inv.xq(I:Inv prog w B U μ H h):B.get? h.objs.size=none:=I.base.fresh
theorem Inv.nextM(I:Inv prog w B U μ H h):h.objs.size∉μ:=λhm=>CY _ (I.lt hm)
theorem Inv.wF(I:Inv prog w B U μ H h)(o:Obj):¬U h.objs.size o:=λhm=>CY _ (I.zO hm)
theorem Inv.other(I:Inv prog w B U μ H h)(k:∀b o,h.get? b=some o->((B.get? b).isSome\/b∈μ\/∃u,U b u)->h'.get? b=some o):Inv prog w B U μ H h' where
 base:=λb o e=>k b o (I.base b o e) (.inl (by rw[e];rfl))
 us:=λa o hu=>o_aaea (I.us a o hu) λh1 h2 sl h3 h4=>(fu h1 h2 sl (k _ _ h3 (.inr (.inr ⟨o,hu⟩))) h4)
 nodup:=I.nodup
 fresh:=I.fresh
 len:=I.len
 objs:=λi a o h1 h2=>let⟨ob,h3,h4⟩:=I.objs i a o h1 h2;(ae ob (k _ _ h3 (.inr (.inl (Eg.mpr ⟨i,h1⟩)))) h4)
theorem Inv.ext(I:Inv prog w B U μ H h)(k:∀b o,h.get? b=some o->h'.get? b=some o):Inv prog w B U μ H h':=I.other λb o e Z=>k b o e
theorem Inv.push(I:Inv prog w B U μ H h)(o:Obj):Inv prog w B U μ H (h.push o):=I.ext λZ Z e=>Dc o e
theorem Inv.but(I:Inv prog w B U μ H h){a:CF}(hs:DF a h h')(h1:B.get? a=none)(h2:a∉μ)(h3:∀o,¬U a o):Inv prog w B U μ H h':=
 I.other λb o e q=>hs b o (by
  rintro rfl;rcases q with q |q |⟨u,q⟩
  ·rw[h1] at q;cases q
  ·exact h2 q
  ·exact h3 u q) e
theorem Inv.less(I:Inv prog w B U μ H h){U':tD}(k:∀a o,U' a o->U a o):Inv prog w B U' μ H h:=⟨I.base,λa o hu=>I.us a o (k a o hu),I.nodup,I.fresh,I.len,I.objs⟩
noncomputable def tD.add(U:tD)(a:CF)(o:Obj):tD:=λb p=>U b p\/(b=a/\p=o)
theorem Inv.more(I:Inv prog w B U μ H h){a:CF}{o:Obj}(e:h.get? a=some o)(h1:B.get? a=none)(h2:a∉μ):Inv prog w B (U.add a o) μ H h:=⟨I.base,λb p hu=>hu.elim (λhu=>I.us b p hu) λq=>by clear hu;obtain⟨rfl,rfl⟩:=q;exact(fu h1 h2 p.slots e (λZ=>rfl)),I.nodup,I.fresh,I.len,I.objs⟩
theorem Inv.vQ(I:Inv prog w B U μ H h){a:CF}{o:Obj}(e:h.get? a=some o)(h2:a∉μ)(h3:∀o,¬U a o):
  ∃B',B.StaysIn B'/\B'.get? a=some o/\Inv prog w B' U μ H h:=by
 refine(aI (gX h λb=>(B.get? b).isSome\/b=a) (λb p q=>cP.mpr ⟨I.base b p q,.inl (by rw[q];rfl)⟩) (cP.mpr ⟨e,.inr rfl⟩) ?_);have st:B.StaysIn (gX h λb=>(B.get? b).isSome\/b=a):=λb p q=>cP.mpr ⟨I.base b p q,.inl (by rw[q];rfl)⟩;refine⟨λb p q=>(cP.mp q).1,λb p hu=>?_,I.nodup,λb hb=>?_,I.len,λi b p x y=>?_⟩
 ·obtain⟨g1,g2,g3⟩:=I.us b p hu;refine⟨oV ?_,g2,g3⟩;rintro(q |rfl)
  ·rw[g1] at q;cases q
  ·exact h3 p hu
 ·refine oV ?_;rintro(q |rfl)
  ·rw[I.fresh b hb] at q;cases q
  ·exact h2 hb
 ·obtain⟨ob,g1,g2,g3⟩:=I.objs i b p x y;exact(aI ob g1 (g2.mono st (Pre.refl _)) g3)
theorem Inv.xC(I:Inv prog w B U μ H h){a:CF}{o:Obj}(k:∀b p,h.get? b=some p->h'.get? b=some p)
  (ha:h.objs.size<=a) (e:h'.get? a=some o) (ho:OR B μ prog w ao o) (hf:¬d6 o):Inv prog w B U (μ++[a]) (H++[ao]) h':=by
 have J:=I.ext k;have nB:B.get? a=none:=by
  cases q:B.get? a with
  |none=>rfl
  |some p=>exact CP (Nat.lt_of_lt_of_le (Dh (I.base _ _ q)) ha) (CY _)
 have nM:a∉μ:=λhm=>CY _ (Nat.lt_of_lt_of_le (I.lt hm) ha);have nU:∀p,¬U a p:=λp hu=>CY _ (Nat.lt_of_lt_of_le (I.zO hu) ha);refine⟨J.base,λb p hu=>?_,?_,λb hb=>?_,by simp[I.len],λi b p x y=>?_⟩
 ·obtain⟨g1,g2,g3⟩:=J.us b p hu;refine⟨g1,λhm=>?_,g3⟩;rcases DP.mp hm with hm |hm
  ·exact g2 hm
  ·rw[DJ.mp hm] at hu;exact nU p hu
 ·rw[Jq];refine⟨I.nodup,by simp,λx hx y hy=>?_⟩;rw[DJ.mp hy];rintro rfl;exact nM hx
 ·rcases DP.mp hb with hb |hb
  ·exact I.fresh b hb
  ·rw[DJ.mp hb];exact nB
 ·by_cases hi:i<μ.length
  ·rw[Ee hi] at x;rw[Ee (I.len▸hi)] at y;obtain⟨ob,g1,g2,g3⟩:=J.objs i b p x y;exact(aI ob g1 (g2.mono (λZ Z e=>e) (Pre.snoc _ _)) g3)
  ·have BY:i=μ.length:=by
    have:=(List.getElem?_eq_some_iff.mp x).1;rw[List.length_append,Le] at this;exact LD this hi
   clear hi;subst BY;rw[F9 (Nat.le_refl _),FN] at x;rw[I.len,F9 (Nat.le_refl _),FN] at y;cases x;cases y;exact(aI o e (ho.mono (λZ Z e=>e) (Pre.snoc _ _)) hf)
theorem Inv.alloc(I:Inv prog w B U μ H h){o:Obj}(e:(h.push o).get? h.objs.size=some o)(ho:OR B μ prog w ao o)(hf:¬d6 o):
  Inv prog w B U (μ++[h.objs.size]) (H++[ao]) (h.push o):=I.xC (λZ Z e=>Dc o e) (Nat.le_refl _) e ho hf
theorem Inv.upd(I:Inv prog w B U μ H h){i:Nat}{a:CF}(hi:μ[i]?=some a)(hs:DF a h h')(e:h'.get? a=some ob)(ho:OR B μ prog w ao ob)(hf:¬d6 ob):
  Inv prog w B U μ (H.set i ao) h':=by
 have hm:a∈μ:=Eg.mpr ⟨i,hi⟩;refine⟨λb p q=>hs b p (by rintro rfl;rw[I.fresh _ hm] at q;cases q) (I.base b p q),λb p hu=>?_,I.nodup,I.fresh,by simp[I.len],λj b p x y=>?_⟩
 ·refine o_aaea (I.us b p hu) λg1 g2 sl g3 g4=>?_;exact(fu g1 g2 sl (hs b _ (by rintro rfl;exact g2 hm) g3) g4)
 ·by_cases hj:j=i
  ·subst hj;rw[hi] at x;cases x;have:j<H.length:=I.len▸(List.getElem?_eq_some_iff.mp hi).1;rw[Fa this] at y;cases y;exact(aI ob e ho hf)
  ·rw[DN (λq=>hj q.symm)] at y;obtain⟨ob',g1,g2⟩:=I.objs j b p x y;refine(ae ob' (hs b _ (λq=>hj ?_) g1) g2);clear hs e hm;subst q;have l1:=(List.getElem?_eq_some_iff.mp x);have l2:=(List.getElem?_eq_some_iff.mp hi);exact(Lb I.nodup).mp (l1.2.trans l2.2.symm)
end
end
variable {s:CI}{U U0 U' U0':tD}{v y:AV}{t:Tok}{d:Data}{g:Array GenState}
noncomputable def mr:zt->Operator
 | .add=>.Add | .sub=>.Sub | .mul=>.Mult | .fdiv=>.FloorDiv | .mod=>.Mod | .pow=>.Pow | .shl=>.LShift
noncomputable def dJ:yG->CmpOp
 | .eq=>.Eq | .ne=>.NotEq | .lt=>.Lt | .le=>.LtE | .gt=>.Gt | .ge=>.GtE | .isin=>.In | .uo=>.NotIn
noncomputable def eG:Nat->Str
 |0=>"BLANKS" |1=>"MOST_FIGURES" |2=>"NAMES" |3=>"KINDS" |4=>"MODELS" |_=>"COUNTS"
noncomputable def cW:Nat->Str
 |2=>"greatest_sample" |3=>"same_plane" |4=>"same_picture" |5=>"check_plane" |6=>"check_picture" |7=>"planes_of" |8=>"samples_of" |9=>"read_octets"
 |10=>"write_octets" |11=>"skip_blanks" |12=>"next_word" |13=>"number_of" |14=>"precision_of" |15=>"check_sides" |16=>"read_told_head" |17=>"read_map"
 |18=>"write_map" |19=>"_law_bucket" |20=>"_law_ladle" |21=>"_law_gap" |22=>"_law_picture" |23=>"_law_words" |24=>"_law_head" |25=>"_law_samples"
 |26=>"_law_refused" |27=>"_law_cut_due" |28=>"_law_values_right" |29=>"_law_is_refused" |30=>"_law_others_right" |31=>"law" |40=>"most" |41=>"one" |_=>"?"
noncomputable def gF:Nat->Str
 |0=>"Plane" |_=>"Picture"
noncomputable def cV:Nat->Str
 |0=>"MarkerError" |1=>"CutError" |_=>"RangeError"
noncomputable def fU:Nat->Str
 |0=>"width" |1=>"height" |2=>"rows" |3=>"model" |4=>"precision" |_=>"planes"
noncomputable def dI:BI->Str
 | .len=>"len" | .int=>"int" | .bytes=>"bytes" | .list=>"list" | .bytearray=>"bytearray" | .max=>"max" | .min=>"min" | .all=>"all" | .isInt=>"isinstance" | .str=>"str" | .range=>"range"
noncomputable def ma:MT->Str
 | .append=>"append" | .pop=>"pop" | .ub=>"bit_length" | .toBytes=>"to_bytes" | .encode=>"encode" | .get=>"get" | .join=>"join"
noncomputable abbrev aN:=List (Nat×Str)
noncomputable abbrev aP:=List (Str×NameKind)
noncomputable def fy(x:Str):Bool:=x !="__debug__"&&x !="__classdict__"
noncomputable def glob? (nk:aP) (x:Str):Bool:=nk.lookup x==some .globalImplicit&&x !="__debug__"
noncomputable def bP(t:List Nat)(xs:List Str)(vis:aN)(nk:aP):aN:=t.zip xs++vis.filter λp=>nk.lookup p.2==some .free&& !t.contains p.1
noncomputable def bQ(vis:aN):Bool:=decide (vis.map (·.1)).Nodup&&decide (vis.map (·.2)).Nodup
noncomputable def gY(nk:aP)(sc:Scope):Bool:=sc.names.all λp=>p.2 !=.cell&&(p.2 !=.local||sc.names.lookup p.1==some .local)&&(p.2 !=.free||(sc.names.lookup p.1==some .free&&(nk.lookup p.1==some .cell||nk.lookup p.1==some .free)))
set_option genInjectivity false in
set_option genSizeOf false in
structure Nd where
 tag:Nat
 a:CJ
 b:CJ
 d:CJ
 o:Operator
 u:UnaryOp
 bo:BoolOp
 cs:List CmpOp
 fs:List CJ
 k:Const
 q:Nat
 x:Str
 p:Pos
 oa:Option CJ
 ob:Option CJ
 od:Option CJ
 kw:List Keyword
 gs:List Comprehension
 sc:Scope
 ks:List (Option CJ)
noncomputable def dY(t:Nat)(p:Pos):Nd:=⟨t,default,default,default,.Add,.Not,.And,[],[],.none,0,"",p,none,none,none,[],[],default,[]⟩
def view:CJ->Nd
 | .Name x p=>{dY 1 p with x:=x}
 | .Constant k q p=>{dY 2 p with k:=k,q:=q}
 | .BinOp l o r p=>{dY 3 p with a:=l,o:=o,b:=r}
 | .UnaryOp u l p=>{dY 4 p with u:=u,a:=l}
 | .BoolOp o fs p=>{dY 5 p with bo:=o,fs:=fs}
 | .Compare l ps rs p=>{dY 6 p with a:=l,cs:=ps,fs:=rs}
 | .IfExp t l r p=>{dY 7 p with a:=t,b:=l,d:=r}
 | .List fs p=>{dY 8 p with fs:=fs}
 | .Tuple fs q p=>{dY 9 p with fs:=fs,q:=q}
 | .Dict ks fs p=>{dY 10 p with ks:=ks,fs:=fs}
 | .Subscript l r p=>{dY 11 p with a:=l,b:=r}
 | .Slice x y z p=>{dY 12 p with oa:=x,ob:=y,od:=z}
 | .Attribute l x p=>{dY 13 p with a:=l,x:=x}
 | .Call g fs ks p=>{dY 14 p with a:=g,fs:=fs,kw:=ks}
 | .ListComp e gs sc p=>{dY 15 p with a:=e,gs:=gs,sc:=sc}
 |_=>dY 0 default
noncomputable def aaP(n:Nd):CJ:=
 if n.tag=1 then .Name n.x n.p else if n.tag=2 then .Constant n.k n.q n.p else if n.tag=3 then .BinOp n.a n.o n.b n.p else if n.tag=4 then .UnaryOp n.u n.a n.p
 else if n.tag=5 then .BoolOp n.bo n.fs n.p else if n.tag=6 then .Compare n.a n.cs n.fs n.p else if n.tag=7 then .IfExp n.a n.b n.d n.p else if n.tag=8 then .List n.fs n.p
 else if n.tag=9 then .Tuple n.fs n.q n.p else if n.tag=10 then .Dict n.ks n.fs n.p else if n.tag=11 then .Subscript n.a n.b n.p else if n.tag=12 then .Slice n.oa n.ob n.od n.p
 else if n.tag=13 then .Attribute n.a n.x n.p else if n.tag=14 then .Call n.a n.fs n.kw n.p else .ListComp n.a n.gs n.sc n.p
theorem aqC(e:CJ)(h:(view e).tag≠0):e=aaP (view e):=by cases e<;>first |rfl |exact CP rfl h
theorem eA{e:CJ}{t:Nat}(ht:((view e).tag==t)=true)(h0:t≠0):e=aaP {view e with tag:=t}:=by
 have h:(view e).tag=t:=eq_of_beq ht;have:=aqC e (by rw[h];exact h0);rw[this]
 conv=>rhs;rw[<-this]
 rw[<-h]
theorem aa{a b:Bool}(h:(a&&b)=true):a=true/\b=true:=Fm.mp h
def dP(e:CJ):Option Str:=if(view e).tag=1 then some (view e).x else none
def cZ(one:Bool)(e:CJ):Option (List Str):=if one then(dP e).map λx=>[x] else if(view e).tag=9 then(view e).fs.mapM dP else none
def mf(e:CJ):Bool:= !((view e).tag==14&&dP (view e).a==some "super")
noncomputable def kj(nk:aP)(xs:List Str):Bool:=xs.all λx=>nk.lookup x==some .local
noncomputable def l8(sc:Scope):Bool:=sc.kind==.function&& !sc.isGenerator&& !sc.isCoroutine&&sc.more.isEmpty
def fv(l:CJ)(n:Nat)(np pos:Pos):Bool:=mf l&&(np.endLine==pos.line)&&decide (n<30)
def jj(k:Nat):Bool:=(dK k).isSome&&decide (k<40)&&decide (k≠30/\k≠31)
noncomputable def hd(l:List CJ):CJ:=l.headD default
noncomputable def dM(l:List CJ):CJ:=(l.drop 1).headD default
noncomputable def gen(l:List Comprehension):Comprehension:=l.headD default
section
variable {e:CJ}
theorem lQ(ht:((view e).tag==1)=true)(h:((view e).x==x)=true):e=.Name x (view e).p:=by obtain rfl:=eq_of_beq h;exact eA ht (by decide)
theorem lP{k:Const}(ht:((view e).tag==2)=true)(h:((view e).k==k)=true):e=.Constant k (view e).q (view e).p:=by obtain rfl:=eq_of_beq h;exact eA ht (by decide)
theorem agX{o:Operator}(ht:((view e).tag==3)=true)(h:((view e).o==o)=true):e=.BinOp (view e).a o (view e).b (view e).p:=by obtain rfl:=eq_of_beq h;exact eA ht (by decide)
theorem eUn{o:UnaryOp}(ht:((view e).tag==4)=true)(h:((view e).u==o)=true):e=.UnaryOp o (view e).a (view e).p:=by obtain rfl:=eq_of_beq h;exact eA ht (by decide)
theorem qI{o:BoolOp}(ht:((view e).tag==5)=true)(h:((view e).bo==o)=true):e=.BoolOp o (view e).fs (view e).p:=by obtain rfl:=eq_of_beq h;exact eA ht (by decide)
theorem abF{o:List CmpOp}{l:List CJ}(ht:((view e).tag==6)=true)(h:((view e).cs==o)=true)(hl:(view e).fs=l):e=.Compare (view e).a o l (view e).p:=by obtain rfl:=eq_of_beq h;rw[<-hl];exact eA ht (by decide)
theorem eIf(ht:((view e).tag==7)=true):e=.IfExp (view e).a (view e).b (view e).d (view e).p:=eA ht (by decide)
theorem ag2(ht:((view e).tag==8)=true):e=.List (view e).fs (view e).p:=eA ht (by decide)
theorem qL(ht:((view e).tag==9)=true):e=.Tuple (view e).fs (view e).q (view e).p:=eA ht (by decide)
theorem agZ(ht:((view e).tag==10)=true)(h:(view e).ks.isEmpty=true)(h2:(view e).fs.isEmpty=true):e=.Dict [] [] (view e).p:=by rw[<-DX.mp h,<-DX.mp h2];exact eA ht (by decide)
theorem qK(ht:((view e).tag==11)=true):e=.Subscript (view e).a (view e).b (view e).p:=eA ht (by decide)
theorem ag4(ht:((view e).tag==12)=true):e=.Slice (view e).oa (view e).ob (view e).od (view e).p:=eA ht (by decide)
theorem nh(ht:((view e).tag==13)=true)(h:((view e).x==x)=true):e=.Attribute (view e).a x (view e).p:=by obtain rfl:=eq_of_beq h;exact eA ht (by decide)
theorem agY{g:CJ}(ht:((view e).tag==14)=true)(h:(view e).kw.isEmpty=true)(hg:(view e).a=g):e=.Call g (view e).fs [] (view e).p:=by rw[<-DX.mp h,<-hg];exact eA ht (by decide)
theorem eLC{gs:List Comprehension}(ht:((view e).tag==15)=true)(h:(view e).gs=gs):e=.ListComp (view e).a gs (view e).sc (view e).p:=by rw[<-h];exact eA ht (by decide)
end
noncomputable def kD(l:List CJ):Bool:=l.length==1
noncomputable def kU(l:List CJ):Bool:=l.length==2
theorem r9{l:List CJ}(h:kD l=true):l=[hd l]:=by
 match l,h with
 |[a],_=>rfl
theorem mE{l:List CJ}(h:kU l=true):l=[hd l,dM l]:=by
 match l,h with
 |[a,b],_=>rfl
def adE(l:List Comprehension):Bool:=l.length==1&&(gen l).is_async==0
theorem anQ{l:List Comprehension}(h:adE l=true):l=[⟨(gen l).target,(gen l).iter,(gen l).ifs,0⟩]:=by
 match l,h with
 |[⟨t,i,cs,a⟩],h=>rw[show a=0 from eq_of_beq (aa h).2];rfl
def dO(x:Str)(e:CJ):Bool:=(view e).tag==1&&(view e).x==x
def fX(e:CJ):Bool:=(view e).tag==14&&(view e).kw.isEmpty
noncomputable def rI:ui->Bool
 | .nil=>true
 | .cons _ _=>false
theorem acY{es:ui}(h:rI es=true):es=.nil:=by
 cases es with
 |nil=>rfl
 |cons _ _=>exact EE h
noncomputable def mU(l:List Nat):Nat:=(l.drop 1).headD 0
def ni(t:List Nat)(xs:List Str)(vis:aN)(nk:aP)(sc:Scope):Bool:=decide (t.length=xs.length)&&(kj sc.names xs&&(l8 sc&&(gY nk sc&&bQ (bP t xs vis sc.names))))
def cE(one:Bool)(tg:CJ):List Str:=(cZ one tg).getD []
mutual
def TE(vis:aN)(nk:aP):PE->CJ->Prop
 | .var i,e=>e=.Name (view e).x (view e).p/\(i,(view e).x)∈vis/\fy (view e).x=true
 | .glob k,e=>e=.Name (eG k) (view e).p/\glob? nk (eG k)=true/\k<=5
 | .tm i,e=>e=.Constant (.int i) (view e).q (view e).p
 | .tO i,e=>e=.Constant (.str i) (view e).q (view e).p
 | .tu i,e=>e=.Constant (.bytes i) (view e).q (view e).p/\i.length<=al
 | .un i,e=>e=.Constant (.bool i) (view e).q (view e).p
 | .bin o a b,e=>e=.BinOp (view e).a (mr o) (view e).b (view e).p/\TE vis nk a (view e).a/\TE vis nk b (view e).b
 | .neg a,e=>e=.UnaryOp .USub (view e).a (view e).p/\TE vis nk a (view e).a
 | .not a,e=>e=.UnaryOp .Not (view e).a (view e).p/\TE vis nk a (view e).a
 | .band es,e=>e=.BoolOp .And (view e).fs (view e).p/\vg vis nk es (view e).fs/\2<=(view e).fs.length
 | .bor es,e=>e=.BoolOp .Or (view e).fs (view e).p/\vg vis nk es (view e).fs/\2<=(view e).fs.length
 | .cmp a o b,e=>e=.Compare (view e).a [dJ o] [hd (view e).fs] (view e).p/\TE vis nk a (view e).a/\TE vis nk b (hd (view e).fs)
 | .uK a o b o' d,e=>e=.Compare (view e).a [dJ o,dJ o'] [hd (view e).fs,dM (view e).fs] (view e).p/\TE vis nk a (view e).a/\TE vis nk b (hd (view e).fs)/\TE vis nk d (dM (view e).fs)
 | .vd d a b,e=>e=.IfExp (view e).a (view e).b (view e).d (view e).p/\TE vis nk d (view e).a/\TE vis nk a (view e).b/\TE vis nk b (view e).d
 | .list es,e=>e=.List (view e).fs (view e).p/\vg vis nk es (view e).fs
 | .tup es,e=>e=.Tuple (view e).fs (view e).q (view e).p/\vg vis nk es (view e).fs/\(view e).fs.length<=20
 | .uR,e=>e=.Dict [] [] (view e).p
 | .idx a i,e=>e=.Subscript (view e).a (view e).b (view e).p/\TE vis nk a (view e).a/\TE vis nk i (view e).b
 | .slice a lo hi st,e=>e=.Subscript (view e).a (.Slice (view (view e).b).oa (view (view e).b).ob (view (view e).b).od (view (view e).b).p) (view e).p/\TE vis nk a (view e).a/\TO vis nk lo (view (view e).b).oa/\TO vis nk hi (view (view e).b).ob/\TO vis nk st (view (view e).b).od
 | .attr a n,e=>e=.Attribute (view e).a (fU n) (view e).p/\TE vis nk a (view e).a/\n<=5/\mf (view e).a=true
 | .comp elt t one it zip conds,e=>e=.ListComp (view e).a [⟨(gen (view e).gs).target,(gen (view e).gs).iter,(gen (view e).gs).ifs,0⟩] (view e).sc (view e).p/\cZ one (gen (view e).gs).target=some (cE one (gen (view e).gs).target)/\
   ni t (cE one (gen (view e).gs).target) vis nk (view e).sc=true/\TE (bP t (cE one (gen (view e).gs).target) vis (view e).sc.names) (view e).sc.names elt (view e).a/\vg (bP t (cE one (gen (view e).gs).target) vis (view e).sc.names) (view e).sc.names conds (gen (view e).gs).ifs/\
   TZ vis nk one (TE vis nk it) zip (gen (view e).gs).iter
 | .call k es,e=>e=.Call (.Name (cW k) (view (view e).a).p) (view e).fs [] (view e).p/\jj k=true/\glob? nk (cW k)=true/\vg vis nk es (view e).fs
 | .new k es,e=>e=.Call (.Name (gF k) (view (view e).a).p) (view e).fs [] (view e).p/\glob? nk (gF k)=true/\k<=1/\vg vis nk es (view e).fs
 | .bi f es,e=>e=.Call (.Name (dI f) (view (view e).a).p) (view e).fs [] (view e).p/\glob? nk (dI f)=true/\((f≠.isInt/\vg vis nk es (view e).fs)\/(f=.isInt/\(view e).fs=[hd (view e).fs,.Name "int" (view (dM (view e).fs)).p]/\glob? nk "int"=true/\vg vis nk es [hd (view e).fs]))
 | .tT m o es,e=>e=.Call (.Attribute (view (view e).a).a (ma m) (view (view e).a).p) (view e).fs [] (view e).p/\fv (view (view e).a).a (view e).fs.length (view (view e).a).p (view e).p=true/\TE vis nk o (view (view e).a).a/\vg vis nk es (view e).fs
 | .most o,e=>e=.Call (.Attribute (view (view e).a).a "most" (view (view e).a).p) [] [] (view e).p/\fv (view (view e).a).a 0 (view (view e).a).p (view e).p=true/\TE vis nk o (view (view e).a).a
 | .tH i ue,e=>e=.Call (.Name (view (view e).a).x (view (view e).a).p) [] [] (view e).p/\ue=[ue.headD 0,mU ue]/\(i,(view (view e).a).x)∈vis/\fy (view (view e).a).x=true/\(ue.headD 0,("width":Str))∈vis/\(mU ue,("height":Str))∈vis
def vg(vis:aN)(nk:aP):ui->List CJ->Prop
 | .nil,fs=>fs=[]
 | .cons e es,fs=>fs=hd fs::fs.tail/\TE vis nk e (hd fs)/\vg vis nk es fs.tail
def TO(vis:aN)(nk:aP):ui->Option CJ->Prop
 | .nil,o=>o=none
 | .cons e es,o=>es=.nil/\o=some (o.getD default)/\TE vis nk e (o.getD default)
def TZ(vis:aN)(nk:aP)(one:Bool)(P:CJ->Prop):ui->CJ->Prop
 | .nil,i=>P i
 | .cons e es,i=>es=.nil/\i=.Call (.Name "zip" (view (view i).a).p) [hd (view i).fs,dM (view i).fs] [] (view i).p/\glob? nk "zip"=true/\one=false/\P (hd (view i).fs)/\TE vis nk e (dM (view i).fs)
end
mutual
def bD(vis:aN)(nk:aP):PE->CJ->Bool
 | .var i,e=>(view e).tag==1&&(vis.contains (i,(view e).x)&&fy (view e).x)
 | .glob k,e=>dO (eG k) e&&(glob? nk (eG k)&&decide (k<=5))
 | .tm i,e=>(view e).tag==2&&(view e).k==.int i
 | .tO i,e=>(view e).tag==2&&(view e).k==.str i
 | .tu i,e=>((view e).tag==2&&(view e).k==.bytes i)&&decide (i.length<=al)
 | .un i,e=>(view e).tag==2&&(view e).k==.bool i
 | .bin o a b,e=>((view e).tag==3&&(view e).o==mr o)&&(bD vis nk a (view e).a&&bD vis nk b (view e).b)
 | .neg a,e=>((view e).tag==4&&(view e).u==.USub)&&bD vis nk a (view e).a
 | .not a,e=>((view e).tag==4&&(view e).u==.Not)&&bD vis nk a (view e).a
 | .band es,e=>((view e).tag==5&&(view e).bo==.And)&&(uQ vis nk es (view e).fs&&decide (2<=(view e).fs.length))
 | .bor es,e=>((view e).tag==5&&(view e).bo==.Or)&&(uQ vis nk es (view e).fs&&decide (2<=(view e).fs.length))
 | .cmp a o b,e=>((view e).tag==6&&((view e).cs==[dJ o]&&kD (view e).fs))&&(bD vis nk a (view e).a&&bD vis nk b (hd (view e).fs))
 | .uK a o b o' d,e=>((view e).tag==6&&((view e).cs==[dJ o,dJ o']&&kU (view e).fs))&&(bD vis nk a (view e).a&&(bD vis nk b (hd (view e).fs)&&bD vis nk d (dM (view e).fs)))
 | .vd d a b,e=>(view e).tag==7&&(bD vis nk d (view e).a&&(bD vis nk a (view e).b&&bD vis nk b (view e).d))
 | .list es,e=>(view e).tag==8&&uQ vis nk es (view e).fs
 | .tup es,e=>(view e).tag==9&&(uQ vis nk es (view e).fs&&decide ((view e).fs.length<=20))
 | .uR,e=>(view e).tag==10&&((view e).ks.isEmpty&&(view e).fs.isEmpty)
 | .idx a i,e=>(view e).tag==11&&(bD vis nk a (view e).a&&bD vis nk i (view e).b)
 | .slice a lo hi st,e=>((view e).tag==11&&(view (view e).b).tag==12)&&(bD vis nk a (view e).a&&(yN vis nk lo (view (view e).b).oa&&(yN vis nk hi (view (view e).b).ob&&yN vis nk st (view (view e).b).od)))
 | .attr a n,e=>((view e).tag==13&&(view e).x==fU n)&&(bD vis nk a (view e).a&&(decide (n<=5)&&mf (view e).a))
 | .comp elt t one it zip conds,e=>((view e).tag==15&&adE (view e).gs)&&((cZ one (gen (view e).gs).target).isSome&&(ni t (cE one (gen (view e).gs).target) vis nk (view e).sc&&
   (bD (bP t (cE one (gen (view e).gs).target) vis (view e).sc.names) (view e).sc.names elt (view e).a&&(uQ (bP t (cE one (gen (view e).gs).target) vis (view e).sc.names) (view e).sc.names conds (gen (view e).gs).ifs&&asd vis nk one (bD vis nk it) zip (gen (view e).gs).iter))))
 | .call k es,e=>(fX e&&dO (cW k) (view e).a)&&(jj k&&(glob? nk (cW k)&&uQ vis nk es (view e).fs))
 | .new k es,e=>(fX e&&dO (gF k) (view e).a)&&(glob? nk (gF k)&&(decide (k<=1)&&uQ vis nk es (view e).fs))
 | .bi f es,e=>(fX e&&dO (dI f) (view e).a)&&(glob? nk (dI f)&&(if f=.isInt then(kU (view e).fs&&dO "int" (dM (view e).fs))&&(glob? nk "int"&&uQ vis nk es [hd (view e).fs]) else uQ vis nk es (view e).fs))
 | .tT m o es,e=>(fX e&&((view (view e).a).tag==13&&(view (view e).a).x==ma m))&&(fv (view (view e).a).a (view e).fs.length (view (view e).a).p (view e).p&&(bD vis nk o (view (view e).a).a&&uQ vis nk es (view e).fs))
 | .most o,e=>((fX e&&(view e).fs.isEmpty)&&((view (view e).a).tag==13&&(view (view e).a).x=="most"))&&(fv (view (view e).a).a 0 (view (view e).a).p (view e).p&&bD vis nk o (view (view e).a).a)
 | .tH i ue,e=>((fX e&&(view e).fs.isEmpty)&&(view (view e).a).tag==1)&&(decide (ue=[ue.headD 0,mU ue])&&(vis.contains (i,(view (view e).a).x)&&(fy (view (view e).a).x&&(vis.contains (ue.headD 0,"width")&&vis.contains (mU ue,"height")))))
def uQ(vis:aN)(nk:aP):ui->List CJ->Bool
 | .nil,fs=>fs.isEmpty
 | .cons e es,fs=> !fs.isEmpty&&(bD vis nk e (hd fs)&&uQ vis nk es fs.tail)
def yN(vis:aN)(nk:aP):ui->Option CJ->Bool
 | .nil,o=>o.isNone
 | .cons e es,o=>rI es&&(o.isSome&&bD vis nk e (o.getD default))
def asd(vis:aN)(nk:aP)(one:Bool)(P:CJ->Bool):ui->CJ->Bool
 | .nil,i=>P i
 | .cons e es,i=>rI es&&(((fX i&&kU (view i).fs)&&dO "zip" (view i).a)&&(glob? nk "zip"&&(!one&&(P (hd (view i).fs)&&bD vis nk e (dM (view i).fs)))))
end
variable {vis:aN}{nk:aP}
section
theorem mH{i:Nat}(h:vis.contains (i,x)=true):(i,x)∈vis:=by simpa using h
theorem acQ{e:CJ}(h:dP e=some x):∃p,e=.Name x p:=by
 unfold dP at h
 by_cases c:(view e).tag=1
 ·rw[CM c] at h;exact⟨_,lQ (by rw[c];rfl) (Df.mpr (C6 h))⟩
 ·rw[CQ c] at h;cases h
theorem ajM(h:cZ true tg=some xs):∃x p,tg=.Name x p/\xs=[x]:=by refine o_ea (Es.mp (show(dP tg).map (λx=>[x])=some xs from h)) λx h1 h2=>?_;obtain⟨p,h3⟩:=acQ h1;exact(bR x p h3 h2.symm)
theorem rD(h:cZ false tg=some xs):∃es k p,tg=.Tuple es k p/\es.mapM dP=some xs:=by
 change(if(view tg).tag=9 then(view tg).fs.mapM dP else none)=some xs at h
 by_cases c:(view tg).tag=9
 ·rw[CM c] at h;exact(gc _ _ _ (qL (by rw[c];rfl)) h)
 ·rw[CQ c] at h;cases h
theorem nY{e:CJ}{r:List CJ}(h:(e::r).mapM dP=some xs):∃x p ys,e=.Name x p/\r.mapM dP=some ys/\xs=x::ys:=by
 rw[GD] at h
 cases q:dP e with
 |none=>rw[q] at h;cases h
 |some x=>
  rw[q] at h;obtain⟨p,rfl⟩:=acQ q
  cases q2:r.mapM dP with
  |none=>rw[q2] at h;cases h
  |some ys=>rw[q2] at h;cases h;exact(bZ x p ys rfl rfl rfl)
theorem eM{e:CJ}(h:dO x e=true):e=.Name x (view e).p:=lQ (aa h).1 (aa h).2
theorem gD{e g:CJ}(h:fX e=true)(hg:(view e).a=g):e=.Call g (view e).fs [] (view e).p:=agY (aa h).1 (aa h).2 hg
theorem aaY{e g:CJ}(h:e=.Call g (view e).fs [] p)(hf:(view e).fs.isEmpty=true):e=.Call g [] [] p:=by rw[DX.mp hf] at h;exact h
theorem agB{l:List CJ}(h:(!l.isEmpty)=true):l=hd l::l.tail:=by
 cases l with
 |nil=>exact EE h
 |cons a l=>rfl
theorem sE{o:Option CJ}(h:o.isSome=true):o=some (o.getD default):=by
 cases o with
 |none=>exact EE h
 |some a=>rfl
theorem rE(h:(cZ one tg).isSome=true):cZ one tg=some (cE one tg):=by
 unfold cE
 cases e:cZ one tg with
 |none=>rw[e] at h;exact EE h
 |some a=>rfl
theorem rN{b:Bool}(h:(!b)=true):b=false:=by
 cases b with
 |true=>exact EE h
 |false=>rfl
mutual
theorem bG:∀(vis:aN)(nk:aP)(pe:PE)(e:CJ),bD vis nk pe e=true->TE vis nk pe e
 |vis,nk,.var i,e,h=>⟨lQ (aa h).1 (DA _),mH (aa (aa h).2).1,(aa (aa h).2).2⟩
 |vis,nk,.glob k,e,h=>⟨eM (aa h).1,(aa (aa h).2).1,Dv (aa (aa h).2).2⟩
 |vis,nk,.tm i,e,h=>lP (aa h).1 (aa h).2
 |vis,nk,.tO i,e,h=>lP (aa h).1 (aa h).2
 |vis,nk,.tu i,e,h=>⟨lP (aa (aa h).1).1 (aa (aa h).1).2,Dv (aa h).2⟩
 |vis,nk,.un i,e,h=>lP (aa h).1 (aa h).2
 |vis,nk,.bin o a b,e,h=>⟨agX (aa (aa h).1).1 (aa (aa h).1).2,bG _ _ _ _ (aa (aa h).2).1,bG _ _ _ _ (aa (aa h).2).2⟩
 |vis,nk,.neg a,e,h=>⟨eUn (aa (aa h).1).1 (aa (aa h).1).2,bG _ _ _ _ (aa h).2⟩
 |vis,nk,.not a,e,h=>⟨eUn (aa (aa h).1).1 (aa (aa h).1).2,bG _ _ _ _ (aa h).2⟩
 |vis,nk,.band es,e,h=>⟨qI (aa (aa h).1).1 (aa (aa h).1).2,tZ _ _ _ _ (aa (aa h).2).1,Dv (aa (aa h).2).2⟩
 |vis,nk,.bor es,e,h=>⟨qI (aa (aa h).1).1 (aa (aa h).1).2,tZ _ _ _ _ (aa (aa h).2).1,Dv (aa (aa h).2).2⟩
 |vis,nk,.cmp a o b,e,h=>⟨abF (aa (aa h).1).1 (aa (aa (aa h).1).2).1 (r9 (aa (aa (aa h).1).2).2),bG _ _ _ _ (aa (aa h).2).1,bG _ _ _ _ (aa (aa h).2).2⟩
 |vis,nk,.uK a o b o' d,e,h=>(bY (abF (aa (aa h).1).1 (aa (aa (aa h).1).2).1 (mE (aa (aa (aa h).1).2).2)) (bG _ _ _ _ (aa (aa h).2).1) (bG _ _ _ _ (aa (aa (aa h).2).2).1) (bG _ _ _ _ (aa (aa (aa h).2).2).2))
 |vis,nk,.vd d a b,e,h=>(bY (eIf (aa h).1) (bG _ _ _ _ (aa (aa h).2).1) (bG _ _ _ _ (aa (aa (aa h).2).2).1) (bG _ _ _ _ (aa (aa (aa h).2).2).2))
 |vis,nk,.list es,e,h=>⟨ag2 (aa h).1,tZ _ _ _ _ (aa h).2⟩
 |vis,nk,.tup es,e,h=>⟨qL (aa h).1,tZ _ _ _ _ (aa (aa h).2).1,Dv (aa (aa h).2).2⟩
 |vis,nk,.uR,e,h=>agZ (aa h).1 (aa (aa h).2).1 (aa (aa h).2).2
 |vis,nk,.idx a i,e,h=>⟨qK (aa h).1,bG _ _ _ _ (aa (aa h).2).1,bG _ _ _ _ (aa (aa h).2).2⟩
 |vis,nk,.slice a lo hi st,e,h=>(gM ((qK (aa (aa h).1).1).trans (CN (λx=>PySem.Expr.Subscript (view e).a x (view e).p) (ag4 (aa (aa h).1).2))) (bG _ _ _ _ (aa (aa h).2).1) (wK _ _ _ _ (aa (aa (aa h).2).2).1) (wK _ _ _ _ (aa (aa (aa (aa h).2).2).2).1) (wK _ _ _ _ (aa (aa (aa (aa h).2).2).2).2))
 |vis,nk,.attr a n,e,h=>(bY (nh (aa (aa h).1).1 (aa (aa h).1).2) (bG _ _ _ _ (aa (aa h).2).1) (Dv (aa (aa (aa h).2).2).1) ((aa (aa (aa h).2).2).2))
 |vis,nk,.comp elt t one it zip conds,e,h=>(gN (eLC (aa (aa h).1).1 (anQ (aa (aa h).1).2)) (rE (aa (aa h).2).1) ((aa (aa (aa h).2).2).1) (bG _ _ _ _ (aa (aa (aa (aa h).2).2).2).1) (tZ _ _ _ _ (aa (aa (aa (aa (aa h).2).2).2).2).1) (arH _ _ _ (λi h=>bG _ _ _ _ h) _ _ (aa (aa (aa (aa (aa h).2).2).2).2).2))
 |vis,nk,.call k es,e,h=>(bY (gD (aa (aa h).1).1 (eM (aa (aa h).1).2)) ((aa (aa h).2).1) ((aa (aa (aa h).2).2).1) (tZ _ _ _ _ (aa (aa (aa h).2).2).2))
 |vis,nk,.new k es,e,h=>(bY (gD (aa (aa h).1).1 (eM (aa (aa h).1).2)) ((aa (aa h).2).1) (Dv (aa (aa (aa h).2).2).1) (tZ _ _ _ _ (aa (aa (aa h).2).2).2))
 |vis,nk,.bi f es,e,h=>⟨gD (aa (aa h).1).1 (eM (aa (aa h).1).2),(aa (aa h).2).1,by
   have h2:=(aa (aa h).2).2
   by_cases c:f=.isInt
   ·rw[CM c] at h2;exact .inr (bY c ((mE (aa (aa h2).1).1).trans (by rw[<-eM (aa (aa h2).1).2])) ((aa (aa h2).2).1) (tZ _ _ _ _ (aa (aa h2).2).2))
   ·rw[CQ c] at h2;exact .inl ⟨c,tZ _ _ _ _ h2⟩⟩
 |vis,nk,.tT m o es,e,h=>(bY (gD (aa (aa h).1).1 (nh (aa (aa (aa h).1).2).1 (aa (aa (aa h).1).2).2)) ((aa (aa h).2).1) (bG _ _ _ _ (aa (aa (aa h).2).2).1) (tZ _ _ _ _ (aa (aa (aa h).2).2).2))
 |vis,nk,.most o,e,h=>⟨aaY (gD (aa (aa (aa h).1).1).1 (nh (aa (aa (aa h).1).2).1 (aa (aa (aa h).1).2).2)) (aa (aa (aa h).1).1).2,(aa (aa h).2).1,bG _ _ _ _ (aa (aa h).2).2⟩
 |vis,nk,.tH i ue,e,h=>(gN (aaY (gD (aa (aa (aa h).1).1).1 (lQ (aa (aa h).1).2 (DA _))) (aa (aa (aa h).1).1).2) (Dv (aa (aa h).2).1) (mH (aa (aa (aa h).2).2).1) ((aa (aa (aa (aa h).2).2).2).1) (mH (aa (aa (aa (aa (aa h).2).2).2).2).1) (mH (aa (aa (aa (aa (aa h).2).2).2).2).2))
theorem tZ:∀(vis:aN)(nk:aP)(pe:ui)(e:List CJ),uQ vis nk pe e=true->vg vis nk pe e
 |vis,nk,.nil,e,h=>DX.mp h
 |vis,nk,.cons p ps,fs,h=>⟨agB (aa h).1,bG _ _ _ _ (aa (aa h).2).1,tZ _ _ _ _ (aa (aa h).2).2⟩
theorem wK:∀(vis:aN)(nk:aP)(pe:ui)(e:Option CJ),yN vis nk pe e=true->TO vis nk pe e
 |vis,nk,.nil,e,h=>EA.mp h
 |vis,nk,.cons p es,o,h=>⟨acY (aa h).1,sE (aa (aa h).2).1,bG _ _ _ _ (aa (aa h).2).2⟩
theorem arH:∀(vis:aN)(nk:aP)(one:Bool){P:CJ->Bool}{Q:CJ->Prop}(hP:∀i,P i=true->Q i)(pe:ui)(e:CJ),asd vis nk one P pe e=true->TZ vis nk one Q pe e
 |vis,nk,one,P,Q,hP,.nil,e,h=>hP e h
 |vis,nk,one,P,Q,hP,.cons p es,e,h=>(gN (acY (aa h).1) ((gD (aa (aa (aa (aa h).2).1).1).1 (eM (aa (aa (aa h).2).1).2)).trans (CN (λl=>JF (.Name "zip" (view (view e).a).p) l [] (view e).p) (mE (aa (aa (aa (aa h).2).1).1).2))) ((aa (aa (aa h).2).2).1) (rN (aa (aa (aa (aa h).2).2).2).1) (hP _ (aa (aa (aa (aa (aa h).2).2).2).2).1) (bG _ _ _ _ (aa (aa (aa (aa (aa h).2).2).2).2).2))
end
structure vq(e:CJ):Prop where
 set:∀op,behindInMarks op e=false
 star:∀rest env,starEach (e::rest) env=(false,eval e env)::starEach rest env
 iter:∀env x,foldedSetIterable e env x=pure x
 swap:∀l env tg,(∀a gs sc p,e≠.ListComp a gs sc p)->swapsWith e tg l env=pure false
section
variable {e:CJ}
theorem acO{x p}(h:e=.Name x p):vq e:=by subst h;exact⟨λZ=>rfl,λZ Z=>rfl,λZ Z=>rfl,λZ Z Z Z=>rfl⟩
theorem oj{k q p}(h:e=.Constant k q p):vq e:=by subst h;exact⟨λZ=>rfl,λZ Z=>rfl,λZ Z=>rfl,λZ Z Z Z=>rfl⟩
theorem ajH{l o r p}(h:e=.BinOp l o r p):vq e:=by subst h;exact⟨λZ=>rfl,λZ Z=>rfl,λZ Z=>rfl,λZ Z Z Z=>rfl⟩
theorem nUn{o l p}(h:e=.UnaryOp o l p):vq e:=by subst h;exact⟨λZ=>rfl,λZ Z=>rfl,λZ Z=>rfl,λZ Z Z Z=>rfl⟩
theorem acM{o l p}(h:e=.BoolOp o l p):vq e:=by subst h;exact⟨λZ=>rfl,λZ Z=>rfl,λZ Z=>rfl,λZ Z Z Z=>rfl⟩
theorem acN{l o r p}(h:e=.Compare l o r p):vq e:=by subst h;exact⟨λZ=>rfl,λZ Z=>rfl,λZ Z=>rfl,λZ Z Z Z=>rfl⟩
theorem nIf{t l r p}(h:e=.IfExp t l r p):vq e:=by subst h;exact⟨λZ=>rfl,λZ Z=>rfl,λZ Z=>rfl,λZ Z Z Z=>rfl⟩
theorem ajJ{l p}(h:e=.List l p):vq e:=by subst h;exact⟨λZ=>rfl,λZ Z=>rfl,λZ Z=>rfl,λZ Z Z Z=>rfl⟩
theorem ajK{l q p}(h:e=.Tuple l q p):vq e:=by subst h;exact⟨λZ=>rfl,λZ Z=>rfl,λZ Z=>rfl,λZ Z Z Z=>rfl⟩
theorem ajI{k l p}(h:e=.Dict k l p):vq e:=by subst h;exact⟨λZ=>rfl,λZ Z=>rfl,λZ Z=>rfl,λZ Z Z Z=>rfl⟩
theorem acP{l r p}(h:e=.Subscript l r p):vq e:=by subst h;exact⟨λZ=>rfl,λZ Z=>rfl,λZ Z=>rfl,λZ Z Z Z=>rfl⟩
theorem ajG{l x p}(h:e=.Attribute l x p):vq e:=by subst h;exact⟨λZ=>rfl,λZ Z=>rfl,λZ Z=>rfl,λZ Z Z Z=>rfl⟩
theorem kr{l x k p}(h:e=.Call l x k p):vq e:=by subst h;exact⟨λZ=>rfl,λZ Z=>rfl,λZ Z=>rfl,λZ Z Z Z=>rfl⟩
theorem nLC{a gs sc p}(h:e=.ListComp a gs sc p):vq e:=⟨λZ=>by rw[h];rfl,λZ Z=>by rw[h];rfl,λZ Z=>by rw[h];rfl,λZ Z Z q=>CP h (q _ _ _ _)⟩
end
theorem TE.nice:∀{pe:PE}{e:CJ},TE vis nk pe e->vq e
 | .var i,_,h=>acO h.1
 | .glob k,_,h=>acO h.1
 | .tm k,_,h=>oj h
 | .tO k,_,h=>oj h
 | .tu k,_,h=>oj h.1
 | .un k,_,h=>oj h
 | .bin o a b,_,h=>ajH h.1
 | .neg a,_,h=>nUn h.1
 | .not a,_,h=>nUn h.1
 | .band es,_,h=>acM h.1
 | .bor es,_,h=>acM h.1
 | .cmp a o b,_,h=>acN h.1
 | .uK a o b o' d,_,h=>acN h.1
 | .vd d a b,_,h=>nIf h.1
 | .list es,_,h=>ajJ h.1
 | .tup es,_,h=>ajK h.1
 | .uR,_,h=>ajI h
 | .idx a i,_,h=>acP h.1
 | .slice a lo hi st,_,h=>acP h.1
 | .attr a n,_,h=>ajG h.1
 | .comp elt t one it zip conds,_,h=>nLC h.1
 | .call k es,_,h=>kr h.1
 | .new k es,_,h=>kr h.1
 | .bi f es,_,h=>kr h.1
 | .tT m o es,_,h=>kr h.1
 | .most o,_,h=>kr h.1
 | .tH i ue,_,h=>kr h.1
end
def fK(vis:aN)(nk:aP)(is:List Nat)(xs:List Str):Bool:=(is.zip xs).all λp=>vis.contains p&&fy p.2&&(nk.lookup p.2==some .local||nk.lookup p.2==some .cell)
noncomputable def mT(a:Arguments)(ps:List Str):Bool:=a.posonlyargs.isEmpty&&a.vararg.isNone&&a.kwonlyargs.isEmpty&&a.kwarg.isNone&&a.defaults.isEmpty&&a.kw_defaults.isEmpty&&a.args.map (·.arg)==ps&&a.args.all (·.annotation.isNone)
def bM(e:CJ):Bool:= !((view e).tag==15)
theorem ajX{e:CJ}(h:bM e=true)(a:CJ)(gs:List Comprehension)(sc:Scope)(p:Pos):e≠.ListComp a gs sc p:=by rintro rfl;exact EE h
def o9(e:CJ):Bool:= !((view e).tag==9)||(!(view e).fs.all (constantsAlone 8)||(view e).fs.all (foldedForSure 8))
def ph(e:CJ):Bool:= !((view e).tag==15&&dO "zip" (view (gen (view e).gs).iter).a)
set_option genInjectivity false in
set_option genSizeOf false in
structure Ns where
 tag:Nat
 a:CJ
 b:CJ
 o:Option CJ
 o2:Option CJ
 es:List CJ
 x:List Stmt
 y:List Stmt
 z:List Stmt
 hs:List DE
 p:Pos
 n:Str
 ar:Arguments
 tp:List TypeParam
 sc:Scope
 ts:Option Scope
 bn:Str
noncomputable def gR(t:Nat)(p:Pos):Ns:=⟨t,default,default,none,none,[],[],[],[],[],p,"",default,[],default,none,""⟩
def ag:Stmt->Ns
 | .Assign ts v p=>{gR 1 p with es:=ts,a:=v}
 | .Expr v p=>{gR 2 p with a:=v}
 | .Return o p=>{gR 3 p with o:=o}
 | .If t x y p=>{gR 4 p with a:=t,x:=x,y:=y}
 | .While t x y p=>{gR 5 p with a:=t,x:=x,y:=y}
 | .For tg it x y p=>{gR 6 p with a:=tg,b:=it,x:=x,y:=y}
 | .Raise o o2 p=>{gR 7 p with o:=o,o2:=o2}
 | .Try x hs y z p=>{gR 8 p with x:=x,hs:=hs,y:=y,z:=z}
 | .FunctionDef n ar x ds o tp sc ts bn p=>{gR 9 p with n:=n,ar:=ar,x:=x,es:=ds,o:=o,tp:=tp,sc:=sc,ts:=ts,bn:=bn}
 |_=>gR 0 default
noncomputable def aaQ(n:Ns):Stmt:=
 if n.tag=1 then .Assign n.es n.a n.p else if n.tag=2 then .Expr n.a n.p else if n.tag=3 then .Return n.o n.p else if n.tag=4 then .If n.a n.x n.y n.p else if n.tag=5 then .While n.a n.x n.y n.p
 else if n.tag=6 then .For n.a n.b n.x n.y n.p else if n.tag=7 then .Raise n.o n.o2 n.p else if n.tag=8 then .Try n.x n.hs n.y n.z n.p else .FunctionDef n.n n.ar n.x n.es n.o n.tp n.sc n.ts n.bn n.p
theorem aqB(e:Stmt)(h:(ag e).tag≠0):e=aaQ (ag e):=by cases e<;>first |rfl |exact CP rfl h
theorem iy{e:Stmt}{t:Nat}(ht:((ag e).tag==t)=true)(h0:t≠0):e=aaQ {ag e with tag:=t}:=by
 have h:(ag e).tag=t:=eq_of_beq ht;have:=aqB e (by rw[h];exact h0);rw[this]
 conv=>rhs;rw[<-this]
 rw[<-h]
noncomputable def bL(l:List Stmt):Stmt:=l.headD default
noncomputable def hX:DE->CJ
 | .ExceptHandler t _ _ _=>t.getD default
noncomputable def hN:DE->Bool
 | .ExceptHandler t n _ _=>t.isSome&&n.isNone
noncomputable def hB:DE->List Stmt
 | .ExceptHandler _ _ x _=>x
noncomputable def hP:DE->Pos
 | .ExceptHandler _ _ _ p=>p
theorem ah5{h:DE}{e:CJ}(q:hN h=true)(he:hX h=e):h=.ExceptHandler (some e) none (hB h) (hP h):=by
 obtain⟨t,n,x,p⟩:=h;obtain⟨q1,q2⟩:=aa q;subst he
 cases n with
 |some _=>exact EE q2
 |none=>
  cases t with
  |none=>exact EE q1
  |some e=>rfl
noncomputable def iO(l:List DE):DE:=l.headD (.ExceptHandler none none [] default)
theorem agC{l:List DE}(h:(!l.isEmpty)=true):l=iO l::l.tail:=by
 cases l with
 |nil=>exact EE h
 |cons a l=>rfl
theorem ng{l:List Stmt}(h:(!l.isEmpty)=true):l=bL l::l.tail:=by
 cases l with
 |nil=>exact EE h
 |cons a l=>rfl
noncomputable def oH(l:List Stmt):Bool:=l.length==1
theorem r8{l:List Stmt}(h:oH l=true):l=[bL l]:=by
 match l,h with
 |[a],_=>rfl
noncomputable def isStr:Const->Bool
 | .str _=>true
 |_=>false
noncomputable def sM:Const->Str
 | .str m=>m
 |_=>""
theorem apX{k:Const}(h:isStr k=true):k=.str (sM k):=by cases k<;>first |rfl |exact EE h
def qQ(k:Nat)(e:CJ):CJ:=.Call (.Name (cV k) (view (view e).a).p) [.Constant (.str (sM (view (hd (view e).fs)).k)) (view (hd (view e).fs)).q (view (hd (view e).fs)).p] [] (view e).p
def abX(k:Nat)(e:CJ):Bool:=(fX e&&dO (cV k) (view e).a)&&(kD (view e).fs&&((view (hd (view e).fs)).tag==2&&isStr (view (hd (view e).fs)).k))
theorem ahn{e:CJ}(h:abX k e=true):e=qQ k e:=by have h1:=aa h;have h2:=aa h1.1;have h3:=aa h1.2;have h4:=aa h3.2;have e1:=gD h2.1 (eM h2.2);have e2:=lP (k:=.str (sM (view (hd (view e).fs)).k)) h4.1 (Df.mpr (apX h4.2));refine e1.trans ?_;unfold qQ;rw[<-e2];exact CN (λl=>JF _ l [] _) (r9 h3.1)
def TT(vis:aN)(nk:aP)(t:PT)(tg v:CJ):Prop:=match t with
 | .var i=>tg=.Name (view tg).x (view tg).p/\fK vis nk [i] [(view tg).x]=true/\ph v=true
 | .tup is=>tg=.Tuple (view tg).fs (view tg).q (view tg).p/\cZ false tg=some (cE false tg)/\is.length=(cE false tg).length/\fK vis nk is (cE false tg)=true/\is.Nodup/\bM v=true/\o9 v=true
 | .sub a i=>tg=.Subscript (view tg).a (view tg).b (view tg).p/\bM v=true/\TE vis nk a (view tg).a/\TE vis nk i (view tg).b
def aa6(vis:aN)(nk:aP)(t:PT)(tg v:CJ):Bool:=match t with
 | .var i=>(view tg).tag==1&&(fK vis nk [i] [(view tg).x]&&ph v)
 | .tup is=>(view tg).tag==9&&((cZ false tg).isSome&&(decide (is.length=(cE false tg).length)&&(fK vis nk is (cE false tg)&&(decide is.Nodup&&(bM v&&o9 v)))))
 | .sub a i=>(view tg).tag==11&&(bM v&&(bD vis nk a (view tg).a&&bD vis nk i (view tg).b))
theorem agm:∀{t:PT}{tg v:CJ},aa6 vis nk t tg v=true->TT vis nk t tg v
 | .var i,_,_,h=>⟨lQ (aa h).1 (DA _),aa (aa h).2⟩
 | .tup is,_,_,h=>(gN (qL (aa h).1) (rE (aa (aa h).2).1) (Dv (aa (aa (aa h).2).2).1) ((aa (aa (aa (aa h).2).2).2).1) (Dv (aa (aa (aa (aa (aa h).2).2).2).2).1) (aa (aa (aa (aa (aa (aa h).2).2).2).2).2))
 | .sub a i,_,_,h=>(bY (qK (aa h).1) ((aa (aa h).2).1) (bG _ _ _ _ (aa (aa (aa h).2).2).1) (bG _ _ _ _ (aa (aa (aa h).2).2).2))
mutual
def TS(vis:aN)(nk:aP):PS->Stmt->Prop
 | .assign t e,s=>s=.Assign [hd (ag s).es] (ag s).a (ag s).p/\TE vis nk e (ag s).a/\TT vis nk t (hd (ag s).es) (ag s).a
 | .expr e,s=>s=.Expr (ag s).a (ag s).p/\bM (ag s).a=true/\TE vis nk e (ag s).a
 | .ret e,s=>s=.Return (some ((ag s).o.getD default)) (ag s).p/\TE vis nk e ((ag s).o.getD default)
 | .ifs c a b,s=>s=.If (ag s).a (ag s).x (ag s).y (ag s).p/\TE vis nk c (ag s).a/\vE vis nk a (ag s).x/\vE vis nk b (ag s).y
 | .uU c b,s=>s=.While (ag s).a (ag s).x [] (ag s).p/\TE vis nk c (ag s).a/\vE vis nk b (ag s).x
 | .for t one it b,s=>s=.For (ag s).a (ag s).b (ag s).x [] (ag s).p/\cZ one (ag s).a=some (cE one (ag s).a)/\t.length=(cE one (ag s).a).length/\fK vis nk t (cE one (ag s).a)=true/\TE vis nk it (ag s).b/\vE vis nk b (ag s).x
 | .raise k,s=>s=.Raise (some (qQ k ((ag s).o.getD default))) none (ag s).p/\glob? nk (cV k)=true/\k<=2
 | .vR e hs,s=>s=.Try [.Expr (ag (bL (ag s).x)).a (ag (bL (ag s).x)).p] (ag s).hs [] [] (ag s).p/\bM (ag (bL (ag s).x)).a=true/\TE vis nk e (ag (bL (ag s).x)).a/\AN vis nk hs (ag s).hs
 | .defn _ _,_=>False
def vE(vis:aN)(nk:aP):tW->List Stmt->Prop
 | .nil,ss=>ss=[]
 | .cons s ss,ts=>ts=bL ts::ts.tail/\TS vis nk s (bL ts)/\vE vis nk ss ts.tail
def AN(vis:aN)(nk:aP):xB->List DE->Prop
 | .nil,hs=>hs=[]
 | .cons k b hs,l=>l=.ExceptHandler (some (.Name (cV k) (view (hX (iO l))).p)) none (hB (iO l)) (hP (iO l))::l.tail/\glob? nk (cV k)=true/\k<=2/\vE vis nk b (hB (iO l))/\AN vis nk hs l.tail
end
mutual
def qy(vis:aN)(nk:aP):PS->Stmt->Bool
 | .assign t e,s=>((ag s).tag==1&&kD (ag s).es)&&(bD vis nk e (ag s).a&&aa6 vis nk t (hd (ag s).es) (ag s).a)
 | .expr e,s=>(ag s).tag==2&&(bM (ag s).a&&bD vis nk e (ag s).a)
 | .ret e,s=>((ag s).tag==3&&(ag s).o.isSome)&&bD vis nk e ((ag s).o.getD default)
 | .ifs c a b,s=>(ag s).tag==4&&(bD vis nk c (ag s).a&&(u8 vis nk a (ag s).x&&u8 vis nk b (ag s).y))
 | .uU c b,s=>((ag s).tag==5&&(ag s).y.isEmpty)&&(bD vis nk c (ag s).a&&u8 vis nk b (ag s).x)
 | .for t one it b,s=>((ag s).tag==6&&(ag s).y.isEmpty)&&((cZ one (ag s).a).isSome&&(decide (t.length=(cE one (ag s).a).length)&&(fK vis nk t (cE one (ag s).a)&&(bD vis nk it (ag s).b&&u8 vis nk b (ag s).x))))
 | .raise k,s=>(((ag s).tag==7&&(ag s).o2.isNone)&&((ag s).o.isSome&&abX k ((ag s).o.getD default)))&&(glob? nk (cV k)&&decide (k<=2))
 | .vR e hs,s=>(((ag s).tag==8&&(oH (ag s).x&&(ag (bL (ag s).x)).tag==2))&&((ag s).y.isEmpty&&(ag s).z.isEmpty))&&(bM (ag (bL (ag s).x)).a&&(bD vis nk e (ag (bL (ag s).x)).a&&yg vis nk hs (ag s).hs))
 | .defn _ _,_=>false
def u8(vis:aN)(nk:aP):tW->List Stmt->Bool
 | .nil,ss=>ss.isEmpty
 | .cons s ss,ts=> !ts.isEmpty&&(qy vis nk s (bL ts)&&u8 vis nk ss ts.tail)
def yg(vis:aN)(nk:aP):xB->List DE->Bool
 | .nil,ss=>ss.isEmpty
 | .cons k b hs,l=>(!l.isEmpty&&(hN (iO l)&&dO (cV k) (hX (iO l))))&&(glob? nk (cV k)&&(decide (k<=2)&&(u8 vis nk b (hB (iO l))&&yg vis nk hs l.tail)))
end
section
variable {s:Stmt}
theorem abE(ht:((ag s).tag==1)=true)(h:kD (ag s).es=true):s=.Assign [hd (ag s).es] (ag s).a (ag s).p:=by rw[<-r9 h];exact iy ht (by decide)
theorem qJ(ht:((ag s).tag==2)=true):s=.Expr (ag s).a (ag s).p:=iy ht (by decide)
theorem abG(ht:((ag s).tag==3)=true)(h:(ag s).o.isSome=true):s=.Return (some ((ag s).o.getD default)) (ag s).p:=by rw[<-sE h];exact iy ht (by decide)
theorem ag1(ht:((ag s).tag==4)=true):s=.If (ag s).a (ag s).x (ag s).y (ag s).p:=iy ht (by decide)
theorem ag6(ht:((ag s).tag==5)=true)(h:(ag s).y.isEmpty=true):s=.While (ag s).a (ag s).x [] (ag s).p:=by rw[<-DX.mp h];exact iy ht (by decide)
theorem ag0(ht:((ag s).tag==6)=true)(h:(ag s).y.isEmpty=true):s=.For (ag s).a (ag s).b (ag s).x [] (ag s).p:=by rw[<-DX.mp h];exact iy ht (by decide)
theorem ag3{e:CJ}(ht:((ag s).tag==7)=true)(h:(ag s).o2.isNone=true)(he:(ag s).o=some e):s=.Raise (some e) none (ag s).p:=by rw[<-he,<-EA.mp h];exact iy ht (by decide)
theorem ag5{x:Stmt}(ht:((ag s).tag==8)=true)(hx:(ag s).x=[x])(h1:(ag s).y.isEmpty=true)(h2:(ag s).z.isEmpty=true):s=.Try [x] (ag s).hs [] [] (ag s).p:=by rw[<-hx];have:=iy ht (by decide);change s=.Try (ag s).x (ag s).hs (ag s).y (ag s).z (ag s).p at this;rw[DX.mp h1,DX.mp h2] at this;exact this
end
mutual
theorem aa5:∀(vis:aN)(nk:aP)(p:PS)(s:Stmt),qy vis nk p s=true->TS vis nk p s
 |vis,nk,.assign t e,s,h=>⟨abE (aa (aa h).1).1 (aa (aa h).1).2,bG _ _ _ _ (aa (aa h).2).1,agm (aa (aa h).2).2⟩
 |vis,nk,.expr e,s,h=>⟨qJ (aa h).1,(aa (aa h).2).1,bG _ _ _ _ (aa (aa h).2).2⟩
 |vis,nk,.ret e,s,h=>⟨abG (aa (aa h).1).1 (aa (aa h).1).2,bG _ _ _ _ (aa h).2⟩
 |vis,nk,.ifs c a b,s,h=>(bY (ag1 (aa h).1) (bG _ _ _ _ (aa (aa h).2).1) (ud _ _ _ _ (aa (aa (aa h).2).2).1) (ud _ _ _ _ (aa (aa (aa h).2).2).2))
 |vis,nk,.uU c b,s,h=>⟨ag6 (aa (aa h).1).1 (aa (aa h).1).2,bG _ _ _ _ (aa (aa h).2).1,ud _ _ _ _ (aa (aa h).2).2⟩
 |vis,nk,.for t one it b,s,h=>(gN (ag0 (aa (aa h).1).1 (aa (aa h).1).2) (rE (aa (aa h).2).1) (Dv (aa (aa (aa h).2).2).1) ((aa (aa (aa (aa h).2).2).2).1) (bG _ _ _ _ (aa (aa (aa (aa (aa h).2).2).2).2).1) (ud _ _ _ _ (aa (aa (aa (aa (aa h).2).2).2).2).2))
 |vis,nk,.raise k,s,h=>⟨ag3 (aa (aa (aa h).1).1).1 (aa (aa (aa h).1).1).2 ((sE (aa (aa (aa h).1).2).1).trans (CN some (ahn (aa (aa (aa h).1).2).2))),(aa (aa h).2).1,Dv (aa (aa h).2).2⟩
 |vis,nk,.vR e hs,s,h=>(bY (ag5 (aa (aa (aa h).1).1).1 ((r8 (aa (aa (aa (aa h).1).1).2).1).trans (CN (λx=>[x]) (qJ (aa (aa (aa (aa h).1).1).2).2))) (aa (aa (aa h).1).2).1 (aa (aa (aa h).1).2).2) ((aa (aa h).2).1) (bG _ _ _ _ (aa (aa (aa h).2).2).1) (arh _ _ _ _ (aa (aa (aa h).2).2).2))
 |vis,nk,.defn i k,s,h=>EE h
theorem ud:∀(vis:aN)(nk:aP)(p:tW)(s:List Stmt),u8 vis nk p s=true->vE vis nk p s
 |vis,nk,.nil,ss,h=>DX.mp h
 |vis,nk,.cons s ss,ts,h=>⟨ng (aa h).1,aa5 _ _ _ _ (aa (aa h).2).1,ud _ _ _ _ (aa (aa h).2).2⟩
theorem arh:∀(vis:aN)(nk:aP)(p:xB)(s:List DE),yg vis nk p s=true->AN vis nk p s
 |vis,nk,.nil,ss,h=>DX.mp h
 |vis,nk,.cons k b hs,l,h=>(gM ((agC (aa (aa h).1).1).trans (CN (·::l.tail) (ah5 (aa (aa (aa h).1).2).1 (eM (aa (aa (aa h).1).2).2)))) ((aa (aa h).2).1) (Dv (aa (aa (aa h).2).2).1) (ud _ _ _ _ (aa (aa (aa (aa h).2).2).2).1) (arh _ _ _ _ (aa (aa (aa (aa h).2).2).2).2))
end
section
open Builtin Builtin.ObjectAttr
noncomputable def aT:Nat->CF
 |0=>51
 |1=>63
 |_=>75
noncomputable def bK:Nat->CF
 |2=>165 |3=>172 |4=>177 |5=>184 |6=>191 |7=>198 |8=>205 |9=>210 |10=>217 |11=>224 |12=>231 |13=>236 |14=>243 |15=>250 |16=>260 |17=>267 |18=>274
 |19=>281 |20=>288 |21=>295 |22=>300 |23=>305 |24=>312 |25=>319 |26=>326 |27=>331 |28=>336 |29=>341 |30=>346 |31=>353 |40=>144 |_=>0
noncomputable def lU(np nv:Nat)(vis:aN)(ps:List Str)(nk:aP):Bool:=decide (ps.length=np)&&decide ps.Nodup&&bQ vis&&decide (np<=nv)&&(vis.take np==(CS np).zip ps)&&
 vis.all (λp=>decide (p.1<nv)&&(nk.lookup p.2==some .local||nk.lookup p.2==some .cell))&&nk.all (λp=>p.2 !=.free)
structure vS(np nv:Nat)(vis:aN)(ps:List Str)(nk:aP):Prop where
 len:ps.length=np
 nodup:ps.Nodup
 ok:bQ vis=true
 le:np<=nv
 par:∀i x,ps[i]?=some x->(i,x)∈vis
 kind:∀i x,(i,x)∈vis->i<nv/\(nk.lookup x=some .local\/nk.lookup x=some .cell)
 ar2:∀x,nk.lookup x≠some .free
structure vn(B:CL)(a:CF)(fd:FuncData)(body:List Stmt)(ps:List Str):Prop where
 ob:∃o,B.get? a=some o/\o.data=.func fd
 body:fd.body=.stmts body
 glob:fd.globals=Dm
 blt:fd.builtins=Ej
 dflt:fd.defaults=.none
 args:mT fd.params ps=true
 kind:fd.scope.kind=.function
 gen:fd.scope.isGenerator=false
 co:fd.scope.isCoroutine=false
 code:B.CodeRec fd.code fd.qualname
structure xa(B:CL)(f:CF)(cells:List (Str×CF)):Prop where
 ex:∃fd body,vn B f fd body []/\vE [(0,("width":Str)),(1,("height":Str))] fd.scope.names ig body/\(∀x∈fd.scope.names,x.2≠.cell)/\(∀x a,fd.closure.lookup x=some a->cells.lookup x=some a/\(x=("width":Str)\/x=("height":Str)))/\
  (∀x,fd.scope.names.lookup x=some .free↔(x=("width":Str)\/x=("height":Str)))/\(∀x,x=("width":Str)\/x=("height":Str)->∃a,fd.closure.lookup x=some a)/\∀x y a,fd.closure.lookup x=some a->fd.closure.lookup y=some a->x=y
def FnAt(B:CL)(k np nv:Nat)(bd:tW):Prop:=∃fd body ps vis,vn B (bK k) fd body ps/\fd.closure=[]/\vS np nv vis ps fd.scope.names/\vE vis fd.scope.names bd body
theorem vn.mono{a:CF}{ps:List Str}(D:vn B a fd body ps)(hB:B.StaysIn B'):vn B' a fd body ps:=⟨o_ea D.ob λo h1 h2=>(ae o (hB _ _ h1) h2),D.body,D.glob,D.blt,D.dflt,D.args,D.kind,D.gen,D.co,D.code.keeps hB⟩
theorem xa.mono{f:CF}{cells:List (Str×CF)}(D:xa B f cells)(hB:B.StaysIn B'):xa B' f cells:=o_eea D.ex λfd body h1 h2=>⟨fd,body,h1.mono hB,h2⟩
theorem FnAt.mono{np:Nat}(h:FnAt B k np nv bd)(hB:B.StaysIn B'):FnAt B' k np nv bd:=o_eeeea h λfd body ps vis h1 h2=>(nN fd body ps vis (h1.mono hB) h2)
structure Stores(K:Frag)(C:CF)(name:Str)(cd:ClassData):Prop where
 cls:clsIn K C=some cd
 dict:cd.hasDict=true
 ne:cd.mro.isEmpty=false
 obj:cd.mro.contains (.type "object")=true
 pass:∀self,refuseLoop self "__setattr__" cd.mro=pure ()
 take:takerIn K C name=some none
 set:findIn K (.ref C) "__setattr__"=some (some (.builtin "object.__setattr__"))
noncomputable def ju:Nat->CF
 |0=>92
 |_=>127
def pR(x:Str)(e:CJ):Bool:=(view e).tag==13&&(view e).x==x
theorem aar{e:CJ}(h:pR x e=true)(hl:(view e).a=l):e=.Attribute l x (view e).p:=by rw[<-hl];exact nh (aa h).1 (aa h).2
def ad3(n:Str)(e:CJ):Bool:=pR n e&&dO "self" (view e).a
theorem apk{n:Str}{e:CJ}(h:ad3 n e=true):e=.Attribute (.Name "self" (view (view e).a).p) n (view e).p:=aar (aa h).1 (eM (aa h).2)
def iS(n:Str)(s:Stmt):Bool:=((ag s).tag==1&&kD (ag s).es)&&(ad3 n (hd (ag s).es)&&dO n (ag s).a)
def ri(k:Nat):List Stmt->Bool
 |[a,b,c]=>iS (bt k 0) a&&iS (bt k 1) b&&iS (bt k 2) c
 |_=>false
def dz(k:Nat):List Str:= ["self",bt k 0,bt k 1,bt k 2]
structure uP(K:Frag)(B:CL)(k:Nat):Prop where
 makes:makesIn K (bO k)=true
 init:findIn K (.ref (bO k)) "__init__"=some (some (.ref (ju k)))
 fn:typeIn K (.ref (ju k))=some (.type "function")
 st:∀i,i<3->∃cd,Stores K (bO k) (bt k i) cd
 fd:∃fd body,vn B (ju k) fd body (dz k)/\fd.closure=[]/\ri k body=true/\∀x∈dz k,fd.scope.names.lookup x=some .local
theorem uP.mono(N:uP K B k)(hB:B.StaysIn B'):uP K B' k:=⟨N.makes,N.init,N.fn,N.st,o_eea N.fd λfd body h1 h2=>(bR fd body (h1.mono hB) h2)⟩
def aeT(C:CF)(o:Obj):Prop:=∃nm q N bs bm sn sub ab col dd k0 k1 k2 k3 k5,o=excClassObj nm q C N bs bm true sn sub ab col dd k0 k1 k2 k3 k5 "Exception.__new__"/\bm.contains (.type "Exception")=true/\bm.contains (.type "BaseException")=true/\
  bm.contains (.type "AttributeError")=false/\bm.contains (.type "NameError")=false/\∀k,bm.contains (.ref (aT k))=false
structure uW(B:CL)(C:CF):Prop where
 at':∃o,B.get? C=some o/\aeT C o
theorem uW.mono(x:uW B C)(hB:B.StaysIn B'):uW B' C:=⟨x.at'.elim λo h=>(ae o (hB _ _ h.1) h.2)⟩
def aaV(b:CJ):Bool:=((fX b&&(pR "__init__" (view b).a&&dO "Exception" (view (view b).a).a))&&(kU (view b).fs&&(dO "self" (hd (view b).fs)&&dO "message" (dM (view b).fs))))&&(view (view b).a).p.endLine==(view b).p.line
def aaW(b:CJ):CJ:=.Call (.Attribute (.Name "Exception" (view (view (view b).a).a).p) "__init__" (view (view b).a).p) [.Name "self" (view (hd (view b).fs)).p,.Name "message" (view (dM (view b).fs)).p] [] (view b).p
theorem agf{b:CJ}(h:aaV b=true):b=aaW b:=by have h1:=aa (aa h).1;have h2:=aa h1.1;have h3:=aa h2.2;have h4:=aa h1.2;have h5:=aa h4.2;have e1:=gD h2.1 (aar h3.1 (eM h3.2));refine e1.trans ?_;unfold aaW;rw[<-eM h5.1,<-eM h5.2,<-mE h4.1]
def th(b:List Stmt):Bool:=((!b.isEmpty&&oH b.tail)&&((ag (bL b)).tag==2&&aaV (ag (bL b)).a))&&iS "message" (bL b.tail)
noncomputable def fj:List Str:= ["self","message"]
structure uO(K:Frag)(B:CL)(k:Nat):Prop where
 cls:uW B (aT k)
 init:findIn K (.ref (aT k)) "__init__"=some (some (.ref 35))
 fn:typeIn K (.ref 35)=some (.type "function")
 st:∃cd,Stores K (aT k) "message" cd
 keep:keepIn K (.ref (aT k))=true
 fd:∃fd body,vn B 35 fd body fj/\fd.closure=[]/\th body=true/\(∀x∈fj,fd.scope.names.lookup x=some .local)/\fd.scope.names.lookup ("Exception":Str)=some .globalImplicit
theorem uO.mono(N:uO K B k)(hB:B.StaysIn B'):uO K B' k:=⟨N.cls.mono hB,N.init,N.fn,N.st,N.keep,o_eea N.fd λfd body h1 h2=>(bR fd body (h1.mono hB) h2)⟩
end
noncomputable def lE:BI->CE
 | .len=>.builtin "len" | .int=>.type "int" | .bytes=>.type "bytes" | .list=>.type "list" | .bytearray=>.type "bytearray" | .max=>.builtin "max" | .min=>.builtin "min" | .all=>.builtin "all"
 | .isInt=>.builtin "isinstance" | .str=>.type "str" | .range=>.type "range"
def vT{K:Type}(B:CL)(es:List (K×AV))(kvs:List (K×CE)):Prop:=kvs.map (·.1)=es.map (·.1)/\∀μ,tK B μ (es.map (·.2)) (kvs.map (·.2))
theorem vT.mono{K:Type}{es:List (K×AV)}{kvs:List (K×CE)}(h:vT B es kvs)(hB:B.StaysIn B'):vT B' es kvs:=⟨h.1,λμ=>(h.2 μ).mono hB (Pre.refl _)⟩
structure arz(K:Frag):Prop where
 attrs:∀c n i,mV c n=some i->plainGet K (bO c) (fU n)=true/\hasDictIn K (bO c)=true/\∃a,findIn K (.ref (bO c)) (fU n)=some a/\noGet K a=true
 cls:∀k,k<=1->keepIn K (.ref (bO k))=true
 most:plainGet K 147 "most"=true/\findIn K (.ref 147) "most"=some (some (.ref 144))/\isFn K (.ref 144)=true
structure ur(prog:Program)(w:CW)(B:CL):Prop where
 ns:∃g b,B.Ns Dm g/\B.Ns Ej b/\(∀k,k<=5->∃cv,g (eG k)=some cv/\∀μ,VR B μ (lV k) cv)/\
  (∀k np nv bd,dK k=some (np,nv,bd)->k<40->g (cW k)=some (.ref (bK k)))/\(∀k,k<=1->g (gF k)=some (.ref (bO k)))/\(∀k,k<=2->g (cV k)=some (.ref (aT k)))/\
  (∀f,g (dI f)=none/\b (dI f)=some (lE f))/\g "zip"=none/\b "zip"=some (.type "zip")/\g "Exception"=none/\b "Exception"=some (.type "Exception")
 nolimit:B.NoLimit
 mods:∃o,B.get? sysModules=some o
 kf:∃K:Frag,K.In B/\arz K
 kx:∃K:Frag,K.In B/\(∀k,k<=1->uP K B k)/\∀k,k<=2->uO K B k
 xe:∀k np nv bd,dK k=some (np,nv,bd)->k≠41->k≠30->k≠31->FnAt B k np nv bd
 tabI:∀k,k=3\/k=4->∃kvs:List (Int×CE),B.DictOf (intKind prog w) (ee k) kvs/\vT B (tabI k) kvs
 tabS:∃kvs:List (Str×CE),B.DictOf (strKind prog w) (ee 5) kvs/\vT B (tabS 5) kvs
theorem ur.mono{w:CW}(G:ur prog w B)(hB:B.StaysIn B'):ur prog w B':=by
 obtain⟨g,b,h1,h2,h3,h4⟩:=(G.ns);exact⟨(jx g b (h1.keeps hB) (h2.keeps hB) (λk hk=>let⟨cv,x,y⟩:=h3 k hk;(ae cv x (λμ=>(y μ).mono hB (Pre.refl _)))) h4),G.nolimit.keeps hB,let⟨o,e⟩:=G.mods;⟨o,hB _ _ e⟩,o_ea G.kf λK x y=>(ae K (x.keeps hB) y),o_eaa G.kx λK x y z=>(aI K (x.keeps hB) (λk hk=>(y k hk).mono hB) (λk hk=>(z k hk).mono hB)),λk np nv bd e q q2 q3=>(G.xe k np nv bd e q q2 q3).mono hB,
  λk hk=>o_ea (G.tabI k hk) λkvs x y=>(ae kvs (x.keep hB) (y.mono hB)),o_ea G.tabS λkvs x y=>(ae kvs (x.keep hB) (y.mono hB))⟩
theorem ur.fns{w:CW}(G:ur prog w B)(k np nv:Nat)(bd:tW)(e:dK k=some (np,nv,bd))(q:k≠41)(q2:k≠30)(q3:k≠31):∃ob fd,B.get? (bK k)=some ob/\ob.data=.func fd:=o_eeeea (G.xe k np nv bd e q q2 q3) λfd body ps vis h1 h2=>o_ea h1.ob λo h3 h4=>(bR o fd h3 h4)
structure tN where
 prog:Program
 w:CW
 U:tD
 fs:List Env
 Γ:Ctx
def hJ(U:tD)(fs:List Env)(k:Nat)(B:CL)(μ:List CF)(h:CL)(e:CF):Prop:=
 ∃base:CL,B.StaysIn base/\(∀a∈μ,∀o,h.get? a=some o->base.get? a=some o)/\(∀a o,U a o->Ex o->base.get? a=some o)/\base.StaysIn h/\base.get? e=none/\h.FunFrames base fs/\
  ∃oe vs,h.get? e=some oe/\oe.cls=.ref (aT k)/\oe.data=.fields vs/\(vs[1]?=some .none\/∃T oT ts fl,vs[1]?=some (.ref T)/\base.get? T=none/\T≠e/\h.get? T=some oT/\oT.data=.fields ts/\
   ts[3]?=some fl/\(fl=.none\/∃env L,fs.head? =some env/\env.frame=some L/\fl=Dr L))/\vs[2]?=some .none
section
variable {δ:Type}
def tj(c:tN)(s:CI)(B:CL)(μ:List CF)(Rel:CL->List CF->α->β->Prop)(r:R α)(Q:β->CI->Prop)(E:CE->CI->Prop):Prop:=match r with
 | .ok a H'=>∀B' tB h' t' b,B.StaysIn B'->Pre μ tB->Inv c.prog c.w B' c.U tB H' h'->Rel B' tB a b->Q b {s with heap:=h',toks:=t'}
 | .exc k H'=>∀B' tB h' t' e,B.StaysIn B'->Pre μ tB->Inv c.prog c.w B' c.U tB H' h'->hJ c.U c.fs k B' tB h' e->E (.ref e) {s with heap:=h',toks:=t'}
 | .bad=>False
theorem tj.eq{c:tN}{Rel:CL->List CF->α->β->Prop}{r r':R α}{Q:β->CI->Prop}(h:r=r')(P:tj c s B μ Rel r' Q E):tj c s B μ Rel r Q E:=h▸P
theorem tj.to{c:tN}{Rel:CL->List CF->α->β->Prop}{r r':R α}{Q:β->CI->Prop}(P:tj c s B μ Rel r Q E)(h:r=r'):tj c s B μ Rel r' Q E:=h▸P
theorem tj.beq{c:tN}{Rel:CL->List CF->α->β->Prop}{r r':R γ}{f:γ->AH->R α}{Q:β->CI->Prop}(h:r=r')(P:tj c s B μ Rel (r'.bind f) Q E):tj c s B μ Rel (r.bind f) Q E:=h▸P
theorem abT{a:PE}{m:Nat}{H1:AH}{x:AV}(h:ev Γ a m ρ H=.ok x H1):uj Γ (.cons a .nil) m ρ H=.ok [x] H1:=by show(ev Γ a m ρ H).bind _=_;rw[h];rfl
theorem tj.shift{c:tN}{Rel:CL->List CF->α->β->Prop}{r:R α}{Q:β->CI->Prop}(P:tj c s B μ Rel r Q E)
  (hB:B.StaysIn B') (tQ:Pre μ tB) (h':CL) (t':Nat):tj c {s with heap:=h',toks:=t'} B' tB Rel r Q E:=by
 cases r with
 |ok a H'=>exact λvm uC t6 ve b x y I v=>P vm uC t6 ve b (λZ Z e=>x _ _ (hB _ _ e)) (tQ.trans y) I v
 |exc k H'=>exact λvm uC t6 ve b x y I v=>P vm uC t6 ve b (λZ Z e=>x _ _ (hB _ _ e)) (tQ.trans y) I v
 |bad=>exact P
section
variable {c:tN}{Rel:CL->List CF->α->β->Prop}{Q:β->CI->Prop}{d:R α}{a:AV}
theorem tj.oI{f:Int->R α}(P:tj c s B μ Rel (aF d a f) Q E):(∃i,a=.int i/\tj c s B μ Rel (f i) Q E)\/tj c s B μ Rel d Q E:=kz (C:=λr=>tj c s B μ Rel r Q E) P
theorem tj.pI{f:Int->R α}(P:tj c s B μ Rel (aF .bad a f) Q E):∃i,a=.int i/\tj c s B μ Rel (f i) Q E:=P.oI.resolve_right id
theorem tj.oY{f:List UInt8->R α}(P:tj c s B μ Rel (bI d a f) Q E):(∃i,a=.bytes i/\tj c s B μ Rel (f i) Q E)\/tj c s B μ Rel d Q E:=mo (C:=λr=>tj c s B μ Rel r Q E) P
theorem tj.pY{f:List UInt8->R α}(P:tj c s B μ Rel (bI .bad a f) Q E):∃i,a=.bytes i/\tj c s B μ Rel (f i) Q E:=P.oY.resolve_right id
theorem tj.oS{f:Str->R α}(P:tj c s B μ Rel (eN d a f) Q E):(∃i,a=.str i/\tj c s B μ Rel (f i) Q E)\/tj c s B μ Rel d Q E:=oE (C:=λr=>tj c s B μ Rel r Q E) P
theorem tj.pS{f:Str->R α}(P:tj c s B μ Rel (eN .bad a f) Q E):∃i,a=.str i/\tj c s B μ Rel (f i) Q E:=P.oS.resolve_right id
theorem tj.oB{f:Bool->R α}(P:tj c s B μ Rel (bN d a f) Q E):(∃i,a=.bool i/\tj c s B μ Rel (f i) Q E)\/tj c s B μ Rel d Q E:=rW (C:=λr=>tj c s B μ Rel r Q E) P
theorem tj.pB{f:Bool->R α}(P:tj c s B μ Rel (bN .bad a f) Q E):∃i,a=.bool i/\tj c s B μ Rel (f i) Q E:=P.oB.resolve_right id
theorem tj.oT{f:List AV->R α}(P:tj c s B μ Rel (iu d a f) Q E):(∃i,a=.tup i/\tj c s B μ Rel (f i) Q E)\/tj c s B μ Rel d Q E:=adC (C:=λr=>tj c s B μ Rel r Q E) P
theorem tj.oG{f:Nat->R α}(P:tj c s B μ Rel (gV d a f) Q E):(∃i,a=.gd i/\tj c s B μ Rel (f i) Q E)\/tj c s B μ Rel d Q E:=rY (C:=λr=>tj c s B μ Rel r Q E) P
theorem tj.pG{f:Nat->R α}(P:tj c s B μ Rel (gV .bad a f) Q E):∃i,a=.gd i/\tj c s B μ Rel (f i) Q E:=P.oG.resolve_right id
theorem tj.oF{f:List Int->R α}(P:tj c s B μ Rel (ky d a f) Q E):(∃i,a=.tX i/\tj c s B μ Rel (f i) Q E)\/tj c s B μ Rel d Q E:=adA (C:=λr=>tj c s B μ Rel r Q E) P
theorem tj.pF{f:List Int->R α}(P:tj c s B μ Rel (ky .bad a f) Q E):∃i,a=.tX i/\tj c s B μ Rel (f i) Q E:=P.oF.resolve_right id
theorem tj.oO{o:Option γ}{f:γ->R α}(P:tj c s B μ Rel (aJ d o f) Q E):(∃i,o=some i/\tj c s B μ Rel (f i) Q E)\/tj c s B μ Rel d Q E:=rZ (C:=λr=>tj c s B μ Rel r Q E) P
theorem tj.pO{o:Option γ}{f:γ->R α}(P:tj c s B μ Rel (aJ .bad o f) Q E):∃i,o=some i/\tj c s B μ Rel (f i) Q E:=P.oO.resolve_right id
theorem tj.o0{r:R α}(P:tj c s B μ Rel (ew d vs r) Q E):(vs=[]/\tj c s B μ Rel r Q E)\/tj c s B μ Rel d Q E:=rU (C:=λr=>tj c s B μ Rel r Q E) P
theorem tj.p0{r:R α}(P:tj c s B μ Rel (ew .bad vs r) Q E):vs=[]/\tj c s B μ Rel r Q E:=P.o0.resolve_right id
theorem tj.oC{f:AV->List AV->R α}(P:tj c s B μ Rel (gj d vs f) Q E):(∃v r,vs=v::r/\tj c s B μ Rel (f v r) Q E)\/tj c s B μ Rel d Q E:=ou (C:=λr=>tj c s B μ Rel r Q E) P
theorem tj.pC{f:AV->List AV->R α}(P:tj c s B μ Rel (gj .bad vs f) Q E):∃v r,vs=v::r/\tj c s B μ Rel (f v r) Q E:=P.oC.resolve_right id
theorem tj.oQ{g:Prop}[Decidable g]{r:R α}(P:tj c s B μ Rel (av d g r) Q E):(g/\tj c s B μ Rel r Q E)\/tj c s B μ Rel d Q E:=oA (C:=λr=>tj c s B μ Rel r Q E) P
theorem tj.pQ{g:Prop}[Decidable g]{r:R α}(P:tj c s B μ Rel (av .bad g r) Q E):g/\tj c s B μ Rel r Q E:=P.oQ.resolve_right id
theorem tj.oL{f:Nat->List AV->R α}(P:tj c s B μ Rel (bU d H a f) Q E):(∃p xs,a=.ref p/\az H p=some xs/\tj c s B μ Rel (f p xs) Q E)\/tj c s B μ Rel d Q E:=ow (C:=λr=>tj c s B μ Rel r Q E) P
theorem tj.pL{f:Nat->List AV->R α}(P:tj c s B μ Rel (bU .bad H a f) Q E):∃p xs,a=.ref p/\az H p=some xs/\tj c s B μ Rel (f p xs) Q E:=P.oL.resolve_right id
theorem tj.oD{f:Nat->List (List UInt8×AV)->R α}(P:tj c s B μ Rel (gU d H a f) Q E):(∃p es,a=.ref p/\dv H p=some es/\tj c s B μ Rel (f p es) Q E)\/tj c s B μ Rel d Q E:=rX (C:=λr=>tj c s B μ Rel r Q E) P
theorem tj.pD{f:Nat->List (List UInt8×AV)->R α}(P:tj c s B μ Rel (gU .bad H a f) Q E):∃p es,a=.ref p/\dv H p=some es/\tj c s B μ Rel (f p es) Q E:=P.oD.resolve_right id
theorem tj.o1{f:AV->R α}(P:tj c s B μ Rel (cF d vs f) Q E):(∃v,vs=[v]/\tj c s B μ Rel (f v) Q E)\/tj c s B μ Rel d Q E:=ady (C:=λr=>tj c s B μ Rel r Q E) P
theorem tj.p1{f:AV->R α}(P:tj c s B μ Rel (cF .bad vs f) Q E):∃v,vs=[v]/\tj c s B μ Rel (f v) Q E:=P.o1.resolve_right id
theorem tj.o2{f:AV->AV->R α}(P:tj c s B μ Rel (jF d vs f) Q E):(∃v w,vs=[v,w]/\tj c s B μ Rel (f v w) Q E)\/tj c s B μ Rel d Q E:=anL (C:=λr=>tj c s B μ Rel r Q E) P
theorem tj.p2{f:AV->AV->R α}(P:tj c s B μ Rel (jF .bad vs f) Q E):∃v w,vs=[v,w]/\tj c s B μ Rel (f v w) Q E:=P.o2.resolve_right id
end
theorem tj.bind{c:tN}{Rel:CL->List CF->α->β->Prop}{Rel₁:CL->List CF->γ->δ->Prop}{r:R γ}{f:γ->AH->R α}{Q:β->CI->Prop}{Q₁:δ->CI->Prop}
  (P:tj c s B μ Rel (r.bind f) Q E)
  (k:∀a H' B' tB h' t' b,r=.ok a H'->B.StaysIn B'->Pre μ tB->Inv c.prog c.w B' c.U tB H' h'->Rel₁ B' tB a b->tj c {s with heap:=h',toks:=t'} B' tB Rel (f a H') Q E->Q₁ b {s with heap:=h',toks:=t'}):
  tj c s B μ Rel₁ r Q₁ E:=by
 cases r with
 |ok a H'=>exact λB' tB h' t' b x y I v=>k a H' B' tB h' t' b rfl x y I v (tj.shift P x y h' t')
 |exc k H'=>exact P
 |bad=>exact P
theorem tj.now{c:tN}{Rel:CL->List CF->α->β->Prop}{a:α}{Q:β->CI->Prop}(P:tj c s B μ Rel (.ok a H) Q E)
{t':Nat} {b:β} (I:Inv c.prog c.w B c.U μ H h') (v:Rel B μ a b):Q b {s with heap:=h',toks:=t'}:=P B μ h' t' b (λZ Z e=>e) (Pre.refl _) I v
end
theorem aic{t:Sem α}{Q:α->CI->Prop}(h:∀Q':α->CI->Prop,(∀a s,Q a s->Q' a s)->CH M A t Q' E s):CH M A t Q E s:=h Q λZ Z x=>x
theorem aid{t:Sem α}{Q:α->CI->Prop}(h:∀(A':Around)(Q':α->CI->Prop)(E':CE->CI->Prop),(∀a s,Q a s->Q' a s)->CH M A' t Q' E' s):CH M A t Q E s:=h A Q E λZ Z x=>x
def NsO(o:Obj)(x:Str)(cv:CE):Prop:=∃es ep,o.data=.dict es ep/\StrKeys es/\nsFind es x=some cv
def lq(env:Env)(U:tD)(x:Str)(cv:CE):Prop:=
 (env.kindOf x=some .local/\∃o,U env.locals o/\NsO o x cv)\/
 ((env.kindOf x=some .cell\/env.kindOf x=some .free)/\∃a o,env.cells.lookup x=some a/\U a o/\o.data=.cell (some cv)/\a≠env.locals)
def FnV(env:Env)(B:CL)(cv:CE):Prop:=∃f,cv=.ref f/\xa B f env.cells/\∀x,x=("width":Str)\/x=("height":Str)->env.kindOf x=some .cell
def wh(env:Env)(x:Str)(B:CL)(μ:List CF)(v:AV)(cv:CE):Prop:=match v with
 | .fn _=>FnV env B cv/\env.kindOf x=some .local
 |v=>VR B μ v cv
theorem wh.mono(h:wh env x B μ v cv)(hB:B.StaysIn B')(tQ:Pre μ tB):wh env x B' tB v cv:=by cases v<;>first |exact VR.mono hB tQ h |(obtain⟨⟨f,e,h1,h2⟩,h3⟩:=h;exact⟨(aI f e (h1.mono hB) h2),h3⟩)
def wa(env:Env)(vis:aN)(ρ:aB)(B:CL)(μ:List CF)(U:tD):Prop:=∀i x v,(i,x)∈vis->ρ[i]?=some v->v≠.undef->∃cv,wh env x B μ v cv/\lq env U x cv
theorem wa.mono(h:wa env vis ρ B μ U)(hB:B.StaysIn B')(tQ:Pre μ tB):wa env vis ρ B' tB U:=λi x v h1 h2 h3=>let⟨cv,a,b⟩:=h i x v h1 h2 h3;(ae cv (a.mono hB tQ) b)
def gA(A:Around)(U:tD)(fs:List Env):Prop:=A.frames=some fs/\∀env∈fs,env.scope.kind≠.module/\∃L o,env.frame=some L/\U L o/\¬Ex o
def Hnd(A:Around)(c:tN):Prop:=(c.Γ.hd=false/\A.handled=none)\/
 (c.Γ.hd=true/\(∀k vs H,c.Γ.C k vs H=R.bad)/\∃x o vs,A.handled=some (.ref x)/\c.U x o/\o.data=.fields vs/\vs[2]?=some .none)
structure ES(c:tN)(A:Around)(env:Env)(nk:aP)(n m:Nat):Prop where
 kind:env.scope.kind=.function
 glob:env.globals=Dm
 blt:env.builtins=Ej
 Cs:∀x,nk.lookup x=some .globalImplicit->env.kindOf x=some .globalImplicit
 cls:∀x,nk.lookup x=some .cell\/nk.lookup x=some .free->∃a,env.cells.lookup x=some a/\(env.kindOf x=some .cell\/env.kindOf x=some .free)
 xO:gA A c.U c.fs
 deep:A.depth+n<480
 units:A.units+60*n+10*m+60<=9000
 u3:Hnd A c
structure u6(c:tN)(env:Env)(vis:aN)(ρ:aB)(B:CL)(μ:List CF)(H:AH)(h:CL):Prop where
 inv:Inv c.prog c.w B c.U μ H h
 env:wa env vis ρ B μ c.U
 uD:ur c.prog c.w B
theorem u6.step{c:tN}(D:u6 c env vis ρ B μ H h)(hB:B.StaysIn B')(tQ:Pre μ tB)(I:Inv c.prog c.w B' c.U tB H' h'):
  u6 c env vis ρ B' tB H' h':=⟨I,D.env.mono hB tQ,D.uD.mono hB⟩
def eU(c:tN)(n:Nat):Prop:=∀(A:Around)(k:Nat)(vs:List AV)(tA:List CE)(B:CL)(μ:List CF)(H:AH)(s:CI)(Q:CE->CI->Prop)(E:CE->CI->Prop),
 gA A c.U c.fs->A.depth+n<480->A.units+60*n<=8950->A.handled=none->Inv c.prog c.w B c.U μ H s.heap->ur c.prog c.w B->tK B μ vs tA->k<=40->k≠30->k≠31->
 tj c s B μ VR (c.Γ.C k vs H) Q E->CH (CG c.prog c.w) A (call (.ref (bK k)) tA) Q E s
def aO(c:tN)(n:Nat)(vis:aN)(nk:aP)(pe:PE)(e:CJ):Prop:=
 ∀(A:Around)(env:Env)(ρ:aB)(m:Nat)(B:CL)(μ:List CF)(H:AH)(s:CI)(Q:CE->CI->Prop)(E:CE->CI->Prop),
  ES c A env nk n m->u6 c env vis ρ B μ H s.heap->tj c s B μ VR (ev c.Γ pe m ρ H) Q E->CH (CG c.prog c.w) A (eval e env) Q E s
def pE(c:tN)(n:Nat)(vis:aN)(nk:aP)(pes:ui)(es:List CJ):Prop:=
 ∀(A:Around)(env:Env)(ρ:aB)(m:Nat)(B:CL)(μ:List CF)(H:AH)(s:CI)(Q:List CE->CI->Prop)(E:CE->CI->Prop)(pos:Pos),
  ES c A env nk n m->u6 c env vis ρ B μ H s.heap->tj c s B μ tK (uj c.Γ pes m ρ H) Q E->CH (CG c.prog c.w) A (spliced (backTo pos (starEach es env))) Q E s
def jO(_:CL)(_:List CF)(v:AV)(b:Bool):Prop:=v=.bool b
def ib(c:tN)(n:Nat)(vis:aN)(nk:aP)(pe:PE)(e:CJ):Prop:=
 ∀(A:Around)(env:Env)(ρ:aB)(m:Nat)(B:CL)(μ:List CF)(H:AH)(s:CI)(Q:Bool->CI->Prop)(E:CE->CI->Prop),
  ES c A env nk n m->u6 c env vis ρ B μ H s.heap->tj c s B μ jO ((ev c.Γ pe m ρ H).bind λv H=>match v with | .bool b=>.ok (.bool b) H |_=>.bad) Q E->CH (CG c.prog c.w) A (isTrue e env (eval e env)) Q E s
section
variable {c:tN}{n:Nat}
theorem aoR{i:Int}:aO c n vis nk (.tm i) (.Constant (.int i) q pos):=λA env ρ m B μ H s Q E S D P=>wpAny_Constant_int (P.now D.inv (.int ..))
theorem adW{i:Str}:aO c n vis nk (.tO i) (.Constant (.str i) q pos):=λA env ρ m B μ H s Q E S D P=>by show CH _ _ (mkText i) _ _ _;exact wpAny_mkText (P.now D.inv (.str ..))
theorem aoQ{i:List UInt8}(hi:i.length<=al):aO c n vis nk (.tu i) (.Constant (.bytes i) q pos):=λA env ρ m B μ H s Q E S D P=>Constant_bytes (P.now D.inv (.bytes _ _ hi))
theorem aoP{i:Bool}:aO c n vis nk (.un i) (.Constant (.bool i) q pos):=λA env ρ m B μ H s Q E S D P=>wpAny_pure (P.now D.inv (.bool ..))
theorem aj2{w:CW}(I:Inv prog w B U μ H h){a:CF}{o:Obj}(hu:U a o)(hn:NsO o x cv):∃m,h.Ns a m/\m x=some cv:=by refine o_aaea (I.us a o hu) λZ Z sl e Z=>?_;obtain⟨es,ep,hd,hk,hf⟩:=hn;exact(ae (nsFind es) (ce _ es ep e hd hk (λZ=>rfl)) hf)
theorem aa2{w:CW}(I:Inv prog w B U μ H h){a:CF}{o:Obj}{cv:Option CE}(hu:U a o)(hn:o.data=.cell cv):h.IsCell a cv:=by refine o_aaea (I.us a o hu) λZ Z sl e Z=>?_;exact(ae _ e hn)
theorem acw{w:CW}{Q:CE->CI->Prop}
  (I:Inv prog w B U μ H s.heap) (hk:env.scope.kind=.function) (hv:lq env U x cv) (hx:x≠"__classdict__") (h:Q cv s):CH M A (loadName env x) Q E s:=by
 rcases hv with⟨hl,o,hu,hn⟩ |⟨hl,a,o,ha,hu,hn,_⟩
 ·obtain⟨m,h1,h2⟩:=aj2 I hu hn;exact Gn hk hl h1 h2 h
 ·rcases hl with hl |hl
  ·exact wpAny_loadName_cell hk hl ha (aa2 I hu hn) h
  ·exact wpAny_loadName_free hk hl ha (aa2 I hu hn) h (by simpa using hx)
end
section
variable {c:tN}
theorem ahR{p:Nat}{xs:List AV}(h:az H p=some xs):H[p]?=some (.list xs):=by
 delta az at h
 cases q:H[p]? with
 |none=>rw[q] at h;cases h
 |some o=>rw[q] at h;cases o<;>cases h;rfl
theorem Inv.list{w:CW}(I:Inv prog w B U μ H h){p:Nat}{a:CF}{xs:List AV}(hp:μ[p]?=some a)(hl:az H p=some xs):
  ∃tA n,h.get? a=some {cls:=.type "list",data:=.seq (Dg tA) n}/\tK B μ xs tA/\xs.length<=al:=by
 (obtain⟨ob,h1,zq2,_⟩:=I.objs p a _ hp (ahR hl);obtain⟨tA,n,rfl,h3,h4⟩:=zq2);exact(ax tA n h1 h3 h4)
theorem dN:al=16777216:=rfl
theorem fG:sizeLine=16777216:=by decide
theorem acV{w:CW}(I:Inv prog w B U μ H h){xs:List AV}{n:Nat}(hv:tK B μ xs tA)(hl:xs.length<=al):
  Inv prog w B U (μ++[h.objs.size]) (H++[.list xs]) (h.push {cls:=.type "list",data:=.seq (Dg tA) n}):=
 I.alloc (DG _ rfl) (ax tA n rfl hv hl) (λ⟨vs,q⟩=>by cases q)
theorem kt{a:CF}(h:μ.length=H.length):(μ++[a])[H.length]?=some a:=by rw[<-h,F9 (Nat.le_refl _),FN];rfl
theorem pP{xs:List AV}(I:Inv c.prog c.w B c.U μ H s.heap)(hv:tK B μ xs tA)(P:tj c s B μ VR (cn xs H) Q E)(t:Nat)(n:Nat):
  xs.length<=al/\Q (.ref s.heap.objs.size) {s with heap:=s.heap.push {cls:=.type "list",data:=.seq (Dg tA) n},toks:=t}:=by
 unfold cn at P
 split at P
 ·rename_i hl
  exact⟨hl,P B _ _ t _ (λZ Z e=>e) (Pre.snoc _ _) (acV I hv hl) (.ref _ _ (kt I.len))⟩
 ·exact P.elim
theorem qU{b:Int}(h:b.natAbs<cI):Gw b<=64:=by
 unfold Gw
 split
 ·exact Ec 64
 ·rename_i hb
  have xg:b.natAbs≠0:=λq=>hb (by rw[Df];exact Int.natAbs_eq_zero.mp q);have:=(LN (k:=64) xg).mpr h;exact JA this
theorem afQ{a n:Int}(h:a.natAbs<cI)(h0:0<=n)(hn:n<=1000):(Gw a:Int)*n<=2^27:=by have h1:=qU h;have h2:(Gw a:Int)*n<=64*n:=Int.mul_le_mul_of_nonneg_right (FJ rfl rfl h1) h0;omega
theorem acH:tA.toArray.size=tA.length:=by simp
theorem aop(xs:List α):∀n:Nat,(Hg (λx1 x2=>x1++x2) (#[]:Array α) (CR n xs.toArray))=((CR n xs).flatten).toArray:=by
 have key:∀(n:Nat)(acc:List α),Hg (λx1 x2=>x1++x2) acc.toArray (CR n xs.toArray)=(acc++(CR n xs).flatten).toArray:=by
  intro n
  induction n with
  |zero=>intro acc;simp
  |succ n ih=>intro acc;rw[Io,ER,Io,Ig,<-List.append_assoc,<-ih];simp
 intro n;have:=key n []
 simpa using this
theorem tK.rep{xs:List AV}(h:tK B μ xs tA):∀n:Nat,tK B μ (CR n xs).flatten (CR n tA).flatten
 |0=>.nil
 |n+1=>by rw[Io,Io,Ig,Ig];exact h.append (h.rep n)
theorem tj.arE{b:List UInt8}(P:tj c s B μ VR (jB b H) Q E):b.length<=al/\tj c s B μ VR (.ok (.bytes b) H:R AV) Q E:=tj.pQ (r:=(.ok (.bytes b) H:R AV)) P
theorem ajF{l:CF}{items:Array CE}{x:Int}
  (hl:s.heap.get? l=some {cls:=.type "list",dict:=none,data:=.seq items k,slots:=#[]})
  (Cc: -(2^63:Int)<=x) (hhi:x<2^63) (uc:items.size*x.toNat<=2^24)
  (h:Q (.ref s.heap.objs.size) {s with heap:=s.heap.push {cls:=.type "list",data:=.seq (Hg (λx1 x2=>x1++x2) #[] (CR (if items.isEmpty=true then 0 else x.toNat) items))}}):
  CH (CG c.prog c.w) A (binaryOp .Mult (.ref l) (.int x u)) Q E s:=
 wpAny_binaryOp_repeat_ref (T:="list") (U:="int") (by decide) (ae _ hl rfl) (λs'=>typeIs_int s' x u) noFill_list_mul F.fills_int_mul Kp repeat_list F.slot_int_index.lookup
  (HE Kp (typeIs_int s x u) F.entry_int_rmul (F.args_int_rmul_2 _ _) (int___rmul___int_list x u l items k)
   (bY hl rfl (ae _ hl rfl) (HE F.slot_list_mul (ae _ hl rfl) F.entry_list_mul (F.args_list_mul_2 _ _)
    (AutoListH.list___mul___list_int_3 l items k x u (by simp[Na];omega) (by omega) (by simp[Nf,sizeLine];omega))
    ⟨hl,h⟩)))
section
variable {x:AV}
theorem aoE(I:Inv c.prog c.w B c.U μ H s.heap)(vx:VR B μ x cx)(vy:VR B μ y cy)(P:tj c s B μ VR (aeJ x y H) Q E):CH (CG c.prog c.w) A (binaryOp .Add cx cy) Q E s:=by
 replace P:=tj.oI P;rcases P with⟨x,rfl,P⟩ |P
 ·obtain⟨_,rfl⟩:=vx.i;replace P:=P.pI;obtain⟨y,rfl,P⟩:=P;obtain⟨_,rfl⟩:=vy.i;exact add_int (P.now I (.int ..))
 replace P:=P.oY;rcases P with⟨x,rfl,P⟩ |P
 ·(obtain⟨t,zq1,hx⟩:=(vx.y);clear vx;subst zq1);replace P:=P.pY;obtain⟨y,rfl,P⟩:=P;(obtain⟨u,zq1,hy⟩:=(vy.y);clear vy;subst zq1);obtain⟨hl,P⟩:=P.arE;exact bytes_add_K (by rw[Dk,Dk,<-List.length_append];exact hl) rfl λt' k=>P.now I (.bytes _ _ hl)
 replace P:=P.pL;obtain⟨p,xs,rfl,hx,P⟩:=P;(obtain⟨a,zq1,ha⟩:=(vx.r);clear vx;subst zq1);replace P:=P.pL;obtain⟨q,ys,rfl,hy,P⟩:=P;(obtain⟨b,zq1,hb⟩:=(vy.r);clear vy;subst zq1);obtain⟨cx,n,h1,h2,_⟩:=I.list ha hx;obtain⟨cy,m,h3,h4,_⟩:=I.list hb hy;have z:=pP I (h2.append h4) P s.toks 0;refine PySem.P.add_list h1 h3 (by simpa using z.2) ?_;have:=z.1;rw[<-(h2.append h4).length,dN] at this;rw[acH,acH,fG,<-List.length_append];exact this
theorem apc(I:Inv c.prog c.w B c.U μ H s.heap)(vx:VR B μ x cx)(vy:VR B μ y cy)(P:tj c s B μ VR (aeM x y H) Q E):CH (CG c.prog c.w) A (binaryOp .Sub cx cy) Q E s:=by replace P:=tj.pI P;obtain⟨x,rfl,P⟩:=P;obtain⟨_,rfl⟩:=vx.i;replace P:=P.pI;obtain⟨y,rfl,P⟩:=P;obtain⟨_,rfl⟩:=vy.i;exact sub_int (P.now I (.int ..))
theorem ao4(I:Inv c.prog c.w B c.U μ H s.heap)(vx:VR B μ x cx)(vy:VR B μ y cy)(P:tj c s B μ VR (aeL x y H) Q E):CH (CG c.prog c.w) A (binaryOp .Mult cx cy) Q E s:=by
 replace P:=tj.pI P;obtain⟨y,rfl,P⟩:=P;obtain⟨_,rfl⟩:=vy.i;replace P:=P.oI;rcases P with⟨x,rfl,P⟩ |P
 ·obtain⟨_,rfl⟩:=vx.i;obtain⟨hb,P⟩:=P.pQ;exact mul_int (P.now I (.int ..)) (hb.elim (λhb=>IntMulOk.of_left (qU hb)) λhb=>IntMulOk.of_right (qU hb))
 replace P:=P.oY;rcases P with⟨x,rfl,P⟩ |P
 ·(obtain⟨t,zq1,hx⟩:=(vx.y);clear vx;subst zq1);obtain⟨⟨h1,h2,h3,h4⟩,P⟩:=P.pQ;refine bytes_mul_K (List.ne_nil_of_length_pos h1) h3 (Ed (EQ h4) (by decide)) h2 rfl λt' k=>P.now I (.bytes _ _ ?_);rw[show(CR y.toNat x).flatten.length=y.toNat*x.length from by simp,Jx];exact h2
 replace P:=P.pL;obtain⟨p,xs,rfl,hx,P⟩:=P;(obtain⟨a,zq1,ha⟩:=(vx.r);clear vx;subst zq1);obtain⟨⟨h1,h2,h3⟩,P⟩:=P.pQ;obtain⟨cx,n,g1,g2,_⟩:=I.list ha hx;have z:=pP I (g2.rep y.toNat) P s.toks 0;rw[<-g2.length] at h3;refine ajF g1 (by omega) (by omega) ?_ ?_
 ·rw[Dk];exact Nat.le_trans (Ez (CU h3) (KM.mpr (EQ h2))) (by decide)
 ·by_cases he:cx=[]
  ·clear h3 g1 g2;subst he
   simpa using z.2
  ·rw[CQ (by simpa using he),aop];exact z.2
theorem pd{g:Int->Int->Prop}[∀x y,Decidable (g x y)]{f:Int->Int->Int}{o:Operator}(I:Inv c.prog c.w B c.U μ H s.heap)(vx:VR B μ x cx)(vy:VR B μ y cy)
  (P:tj c s B μ VR (aF .bad x λx=>aF .bad y λy=>av .bad (g x y) (.ok (.int (f x y)) H)) Q E) (k:∀{x y:Int}{t u:Tok},g x y->Q (.int (f x y) s.toks) {s with toks:=s.toks+1}->CH (CG c.prog c.w) A (binaryOp o (.int x t) (.int y u)) Q E s):
  CH (CG c.prog c.w) A (binaryOp o cx cy) Q E s:=by
 replace P:=P.pI;obtain⟨x,rfl,P⟩:=P;obtain⟨_,rfl⟩:=vx.i;replace P:=P.pI;obtain⟨y,rfl,P⟩:=P;obtain⟨_,rfl⟩:=vy.i;obtain⟨hb,P⟩:=P.pQ;exact k hb (P.now I (.int ..))
theorem adV{o:zt}(I:Inv c.prog c.w B c.U μ H s.heap)(vx:VR B μ x cx)(vy:VR B μ y cy)(P:tj c s B μ VR (dc o x y H) Q E):
  CH (CG c.prog c.w) A (binaryOp (mr o) cx cy) Q E s:=by
 cases o with
 |add=>exact aoE I vx vy P
 |sub=>exact apc I vx vy P
 |mul=>exact ao4 I vx vy P
 |fdiv=>exact pd (f:=λx y=>x.fdiv y) I vx vy P λhb h=>floordiv_int (HX hb.1) h (.inl (Mb (C8.mp (IW (HW (KE (EQ hb.1))) hb.2))))
 |mod=>exact pd (f:=λx y=>x.fmod y) I vx vy P λhb h=>mod_int' (HX hb.1) h
 |pow=>exact pd (f:=λx y=>x^y.toNat) I vx vy P λhb h=>pow_int hb.1 (afQ hb.2.2 hb.1 hb.2.1) h
 |shl=>exact pd (f:=λx y=>x*2^y.toNat) I vx vy P λhb h=>lshift_int_small hb.1 (Ed hb.2.1 (by decide)) hb.2.2 h
end
end
section
open PySem PySem.W PySem.Calls PyProof.Rows PySem.SeqAt
section
variable {c:tN}
theorem abM{f:AV->AV->Option Bool}{x:AV}{xs ys:List AV}{b:Bool}(h:ff f (x::xs) ys=some b):∃y CD a b',ys=y::CD/\f x y=some a/\ff f xs CD=some b'/\b=(a&&b'):=by obtain⟨y,ys,rfl,h⟩:=um.pC h;obtain⟨a,h1,h⟩:=FQ.mp h;(obtain⟨b',h2,zq2⟩:=Es.mp h;clear h;subst zq2);exact(ef y ys a b' rfl h1 (bE h2 rfl))
theorem ahf{f:AV->AV->Option Bool}:∀{xs ys:List AV}{b:Bool},ff f xs ys=some b->∃e:Nat->Bool,(∀j (x y:AV),xs[j]?=some x->ys[j]?=some y->f x y=some (e j))/\b=(CS xs.length).all e:=by
 intro zi
 induction zi with
 |nil=>
 exact @λys b h=>by obtain⟨rfl,h⟩:=um.p0 h;cases h;exact(ae (λZ=>true) (λj x y q=>by simp at q) rfl)
 |cons x xs ih=>
 exact @λys b h=>by
  (refine o_eeeeaa (abM h) λy ys a b' zq4 h1=>r_a λh2 zq7=>?_;subst zq4;clear h;subst zq7);obtain⟨e,g1,g2⟩:=ih h2;refine(ae (λj=>Nat.casesOn j a e) (λj x' y' q r=>?_) ?_)
  ·cases j with
   |zero=>cases q;cases r;exact h1
   |succ j=>exact g1 j x' y' q r
  ·rw[g2,Di,Ll,HZ,Ja];rfl
theorem ahg{f:AV->AV->Option Bool}(hf:∀x b,f x x=some b->b=true):∀(xs:List AV){b:Bool},ff f xs xs=some b->b=true:=by
 intro zi
 induction zi with
 |nil=>
 exact @λb h=>by cases h;rfl
 |cons x xs ih=>
 exact @λb h=>by(refine o_eeeeaa (abM h) λy ys a b' e h1=>r_a λh2 zq7=>?_;clear h;subst zq7);cases e;rw[hf x a h1,ih h2];rfl
theorem qM{x:AV}{r:Bool}(h:il x y=some r):(∃i j,x=.int i/\y=.int j/\r=(i==j))\/(∃i j,x=.bytes i/\y=.bytes j/\r=(i==j))\/(∃i j,x=.str i/\y=.str j/\r=(i==j))\/
  (∃i j,x=.bool i/\y=.bool j/\r=(i==j))\/∃j,x=.none/\y=.str j/\r=false:=by
 rcases um.oI h with⟨i,e,h⟩ |h
 ·obtain⟨j,e2,h⟩:=um.pI h;exact .inl (ax i j e e2 ((C6 h).symm))
 rcases um.oY h with⟨i,e,h⟩ |h
 ·obtain⟨j,e2,h⟩:=um.pY h;exact .inr (.inl (ax i j e e2 ((C6 h).symm)))
 rcases um.oS h with⟨i,e,h⟩ |h
 ·obtain⟨j,e2,h⟩:=um.pS h;exact .inr (.inr (.inl (ax i j e e2 ((C6 h).symm))))
 rcases um.oB h with⟨i,e,h⟩ |h
 ·obtain⟨j,e2,h⟩:=um.pB h;exact .inr (.inr (.inr (.inl (ax i j e e2 ((C6 h).symm)))))
 obtain⟨e,h⟩:=um.pN h;obtain⟨j,e2,h⟩:=um.pS h;exact .inr (.inr (.inr (.inr (aI j e e2 ((C6 h).symm)))))
theorem qN{n:Nat}{x:AV}{r:Bool}(h:de H n x y=some r):il x y=some r\/∃m p q xs ys,n=m+1/\x=.ref p/\y=.ref q/\az H p=some xs/\az H q=some ys/\(if xs.length=ys.length then ff (de H m) xs ys else some false)=some r:=by
 cases n with
 |zero=>exact .inl h
 |succ m=>
  rcases um.oL h with⟨p,xs,e,h1,h⟩ |h
  ·obtain⟨q,ys,e2,h2,h⟩:=um.pL h;exact .inr (iR m p q xs ys rfl (gM e e2 h1 h2 h))
  ·exact .inl h
theorem abL{x:AV}{b:Bool}(h:il x x=some b):b=true:=by rcases qM h with⟨i,j,rfl,e,rfl⟩ |⟨i,j,rfl,e,rfl⟩ |⟨i,j,rfl,e,rfl⟩ |⟨i,j,rfl,e,rfl⟩ |⟨j,rfl,e,rfl⟩<;>cases e<;>exact DA _
theorem ahj:∀(n:Nat)(x:AV)(b:Bool),de H n x x=some b->b=true:=by
 intro zi
 induction zi with
 |zero=>
 exact @λx b h=>abL h
 |succ n ih=>
 exact @λx b h=>by
  rcases qN h with h |⟨m,p,q,xs,ys,e,rfl,e2,h1,h2,h⟩
  ·exact abL h
  ·cases e2;rw[h1] at h2;cases h2;cases e;rw[CM rfl] at h;exact ahg (ih) _ h
theorem gP{a:CF}{n:Nat}(e:h.get? a=some {cls:=.type "list",data:=.seq (Dg tA) n}):h.IsList a tA.toArray:=(lY _ e rfl n rfl)
theorem abO(I:Inv c.prog c.w B c.U μ H s.heap){n:Nat}{p:Nat}{a b:CF}{xs ys:List AV}{r:Bool}(ha:μ[p]?=some a)(hb:μ[q]?=some b)(h1:az H p=some xs)(h2:az H q=some ys)(h:(if xs.length=ys.length then ff (de H n) xs ys else some false)=some r)
  (ih:∀(A:Around)(x y:AV)(cx cy:CE)(r:Bool),VR B μ x cx->VR B μ y cy->de H n x y=some r->A.units+n+2<=9800->EqAt A s cx cy r) (hu:A.units+(n+1)+2<=9800):
  RcAt A s (.ref a) (.ref b) r/\RcNeAt A s (.ref a) (.ref b) (!r):=by
 have hc:A.units<cLine:=by unfold cLine;exact amb hu
 obtain⟨cx,n1,g1,g2,_⟩:=I.list ha h1;obtain⟨cy,n2,g3,g4,_⟩:=I.list hb h2;have l1:=g2.length;have l2:=g4.length
 split at h
 ·rename_i hl
  obtain⟨e,k1,k2⟩:=ahf h;have he:∀(j:Nat)(h1:j<cx.toArray.size)(h2:j<cy.toArray.size),EqAt A.in1 s cx.toArray[j] cy.toArray[j] (e j):=by intro j j1 j2;have j1':j<cx.length:=j1;have j2':j<cy.length:=j2;have hx:xs[j]?=some xs[j]:=List.getElem?_eq_getElem (l1▸j1');have hy:ys[j]?=some ys[j]:=List.getElem?_eq_getElem (l2▸j2');obtain⟨cx',m1,m2⟩:=g2.get hx;obtain⟨cy',m3,m4⟩:=g4.get hy;rw[List.getElem?_eq_getElem j1'] at m1;rw[List.getElem?_eq_getElem j2'] at m3;cases m1;cases m3;exact ih A.in1 _ _ _ _ _ m2 m4 (k1 j _ _ hx hy) (by rw[Around.in1_units];exact amc hu)
  have uc:cx.toArray.size=cy.toArray.size:=l1.trans (hl.trans l2.symm);have er:(CS cx.toArray.size).all e=r:=by rw[k2,<-l1];rfl
  exact⟨er▸RcAt.lists (gP g1) (gP g3) uc hc he,er▸RcNeAt.lists (gP g1) (gP g3) uc hc he⟩
 ·rename_i hl
  cases h;have uc:(cx.toArray.size !=cy.toArray.size)=true:=by simpa[l1,l2] using hl
  exact⟨RcAt.lists_lengths (gP g1) (gP g3) uc hc,RcNeAt.lists_lengths (gP g1) (gP g3) uc hc⟩
theorem eqB{b c:List UInt8}:EqAt A s (.bytes b.toArray t) (.bytes c.toArray u) (b==c):=λprog w E Q hq=>eqBool_bytes (by
 have:decide (b.toArray.toList=c.toArray.toList)=(b==c):=by rw[HN];simp
 rw[this];exact hq)
theorem lR{x:AV}{r:Bool}(vx:VR B μ x cx)(vy:VR B μ y cy)(h:il x y=some r):EqAt A s cx cy r:=by
 rcases qM h with⟨i,j,rfl,rfl,rfl⟩ |⟨i,j,rfl,rfl,rfl⟩ |⟨i,j,rfl,rfl,rfl⟩ |⟨i,j,rfl,rfl,rfl⟩ |⟨j,rfl,rfl,rfl⟩
 ·obtain⟨_,rfl⟩:=vx.i;obtain⟨_,rfl⟩:=vy.i;exact EqAt.int_int _ _ _ _
 ·(obtain⟨_,zq1,_⟩:=(vx.y);clear vx;subst zq1);(obtain⟨_,zq1,_⟩:=(vy.y);clear vy;subst zq1);exact eqB
 ·obtain⟨_,rfl⟩:=vx.s;obtain⟨_,rfl⟩:=vy.s;exact EqAt.str_str _ _ _ _
 ·rw[vx.b,vy.b];exact EqAt.bool_bool _ _
 ·rw[vx.n];obtain⟨_,rfl⟩:=vy.s;exact EqAt.none_str _ _
theorem ahd{x:AV}{r:Bool}(vx:VR B μ x cx)(vy:VR B μ y cy)(h:il x y=some r):(Q (.bool r) s->CH (CG c.prog c.w) A (compareOp .Eq cx cy) Q E s)/\(Q (.bool (!r)) s->CH (CG c.prog c.w) A (compareOp .NotEq cx cy) Q E s):=by
 rcases qM h with⟨i,j,rfl,rfl,rfl⟩ |⟨i,j,rfl,rfl,rfl⟩ |⟨i,j,rfl,rfl,rfl⟩ |⟨i,j,rfl,rfl,rfl⟩ |⟨j,rfl,rfl,rfl⟩
 ·obtain⟨_,rfl⟩:=vx.i;obtain⟨_,rfl⟩:=vy.i;exact⟨λhq=>eq_int hq,λhq=>ne_int (by simpa[bne] using hq)⟩
 ·(obtain⟨_,zq1,_⟩:=(vx.y);clear vx;subst zq1);(obtain⟨_,zq1,_⟩:=(vy.y);clear vy;subst zq1);exact⟨λhq=>eq_bytes (by simpa using hq),λhq=>ne_bytes (by simpa[bne] using hq)⟩
 ·obtain⟨_,rfl⟩:=vx.s;obtain⟨_,rfl⟩:=vy.s;exact⟨λhq=>RcAt.str_str _ _ _ _ _ _ _ _ hq,λhq=>RcNeAt.str_str _ _ _ _ _ _ _ _ hq⟩
 ·rw[vx.b,vy.b];exact⟨λhq=>RcAt.bool_bool _ _ _ _ _ _ hq,λhq=>RcNeAt.bool_bool _ _ _ _ _ _ hq⟩
 ·rw[vx.n];obtain⟨_,rfl⟩:=vy.s;exact⟨λhq=>EqNone.eq_none_str hq,λhq=>EqNone.ne_none_str hq⟩
theorem ahe(I:Inv c.prog c.w B c.U μ H s.heap):∀(n:Nat)(A:Around)(x y:AV)(cx cy:CE)(r:Bool),VR B μ x cx->VR B μ y cy->de H n x y=some r->A.units+n+2<=9800->EqAt A s cx cy r:=by
 intro n
 induction n with
 |zero=>exact λA x y cx cy r vx vy h hu=>lR vx vy h
 |succ n ih=>
  intro A x y cx cy r vx vy h hu;rcases qN h with h1 |⟨m,p,q,xs,ys,e,rfl,rfl,h1,h2,h3⟩
  ·exact lR vx vy h1
  ·cases e;(obtain⟨a,zq1,ha⟩:=(vx.r);clear vx;subst zq1);obtain⟨b,rfl,hb⟩:=(vy.r)
   by_cases ym:a=b
   ·subst ym;have hpq:p=q:=(Lb I.nodup).mp ((List.getElem?_eq_some_iff.mp ha).2.trans (List.getElem?_eq_some_iff.mp hb).2.symm);clear h2 hb vy;subst hpq;rw[ahj _ _ _ h];exact EqAt.same _
   ·exact EqAt.of_refs ym (abO I ha hb h1 h2 h3 ih hu).1
theorem adX(I:Inv c.prog c.w B c.U μ H s.heap){x:AV}{r:Bool}(vx:VR B μ x cx)(vy:VR B μ y cy)(h:de H 4 x y=some r)(hu:A.units+10<=9800):
  (Q (.bool r) s->CH (CG c.prog c.w) A (compareOp .Eq cx cy) Q E s)/\(Q (.bool (!r)) s->CH (CG c.prog c.w) A (compareOp .NotEq cx cy) Q E s):=by
 rcases qN h with h1 |⟨m,p,q,xs,ys,e,rfl,rfl,h1,h2,h3⟩
 ·exact ahd vx vy h1
 ·(obtain⟨a,zq1,ha⟩:=(vx.r);clear vx;subst zq1);(obtain⟨b,zq1,hb⟩:=(vy.r);clear vy;subst zq1);cases e;obtain⟨h1,h2⟩:=abO (A:=A) I ha hb h1 h2 h3 (ahe I 3) (amd hu);exact⟨λhq=>h1 _ _ _ _ hq,λhq=>h2 _ _ _ _ hq⟩
end
end
section
open PySem PySem.W PySem.Calls PyProof.Rows PySem.SeqAt
theorem ab6{b:List UInt8}{x:Int}(h0:0<=x)(h1:x<256):Gives (Builtin.«bytes.__contains__» ⟨[.bytes b.toArray t,.int x u],[]⟩) (.val (.bool (b.any λc=>(c.toNat:Int)==x))):=by
 refine .of_wp λM A E s Q hq=>?_
 show CH M A (Kg "bytes.__contains__" (.bytes b.toArray t) (.int x u)>>=λr=>_) _ E s
 unfold Kg;refine wpAny_bind (wpAny_bind (JV (Da (a:=x) (by rfl) ?_)));refine wpAny_bind (Da KBy.buffer_eq ?_);show CH M A (if(decide (x<0)||decide (x>=256))=true then _ else _) _ E s
 rw[CQ (by simp;exact⟨h0,h1⟩)];have e:b.toArray.contains x.toNat.toUInt8=(b.any λc=>(c.toNat:Int)==x):=by
  rw[HN];simp only[List.contains_toArray,Ib,Jc,Df];constructor
  ·intro hm;refine(ae _ hm ?_);simp only[L7,GQ];exact(CN Int.ofNat (Hp ((GZ h0).mpr h1))).trans (G8 h0)
  ·intro y9;obtain⟨c,hc,e⟩:=y9;have:x.toNat.toUInt8=c:=by
    apply JK.mp;simp only[L7,GQ];clear h0 hq;subst e;exact Hp (C8.mp h1)
   rw[this];exact hc
 rw[e];exact wpAny_pure (wpAny_pure (ae _ rfl hq))
theorem nP{w:CW}(k:Int)(t:Tok):(intKind prog w).is k (.int k t)=true:=by simp[intKind,MB]
theorem lZ{w:CW}(k:List UInt8)(t:Tok):(bytesKind prog w).is k (.bytes k.toArray t)=true:=by simp[bytesKind,PySem.W.isBytes]
theorem sQ{K:Type}[DecidableEq K][BEq K][LawfulBEq K]{es:List (K×AV)}{kvs:List (K×CE)}{k:K}(h1:kvs.map (·.1)=es.map (·.1))(h2:tK B μ (es.map (·.2)) (kvs.map (·.2)))
  (h:(es.find? λe=>e.1==k).map (·.2)=some v):∃cv,valueAt kvs k=some cv/\VR B μ v cv:=by
 induction es generalizing kvs with
 |nil=>cases h
 |cons p es ih=>
  obtain⟨a,x⟩:=p
  cases kvs with
  |nil=>cases h1
  |cons q kvs=>
  obtain⟨b,y⟩:=q;simp only[DY,Jd] at h1;obtain⟨rfl,h1⟩:=h1;obtain⟨_,_,e,h3,h4⟩:=h2.c;cases e;unfold valueAt;rw[Jj] at h⊢
  by_cases hk:b=k
  ·simp only[hk,DA,Ma,Nl,decide_true] at h⊢;clear ih;subst h;exact(ae y rfl h3)
  ·simp only[EL.mpr hk,hk,decide_false] at h⊢;exact ih h1 h4 h
theorem mD{K:Type}[DecidableEq K][BEq K][LawfulBEq K]:∀{es:List (K×AV)}{kvs:List (K×CE)}{k:K},kvs.map (·.1)=es.map (·.1)->(valueAt kvs k).isSome=es.any λe=>e.1==k
 |[],[],k,_=>rfl
 |[],_::_,k,h1=>by simp at h1
 |(a,x)::es,[],k,h1=>by simp at h1
 |(a,x)::es,(b,y)::kvs,k,h1=>by
  simp only[DY,Jd] at h1;obtain⟨rfl,h1⟩:=h1;have ih:=mD (es:=es) (kvs:=kvs) (k:=k) h1;unfold valueAt at ih⊢;rw[Jj,Jb]
  by_cases hk:b=k
  ·simp[hk]
  ·simp only[EL.mpr hk,hk,decide_false,Gs];exact ih
theorem aqa{K:Type}[DecidableEq K][BEq K][LawfulBEq K]{es:List (K×AV)}{kvs:List (K×CE)}{k:K}(h1:kvs.map (·.1)=es.map (·.1))(h:(es.find? λe=>e.1==k)=none):valueAt kvs k=none:=by
 have:=mD (k:=k) h1
 cases q:valueAt kvs k with
 |none=>rfl
 |some v=>rw[q] at this;simp only[Option.isSome_some] at this;have h':=List.find?_eq_none.mp h;obtain⟨e,he,hk⟩:=Jc.mp this.symm;exact CP hk (h' e he)
section
variable {c:tN}
def jr(y:AV)(z:CE):Bool:=aF (bI (bN false y λb=>match z with
  | .bool a=>a==b
  |_=>false) y λb=>match z with
  | .bytes a _=>a==b.toArray
  |_=>false) y λn=>match z with
  | .int m _=>m==n
  |_=>false
theorem ahz{x:AV}{z:CE}{r:Bool}(vx:VR B μ x z)(vy:VR B μ y cy)(h:gI x y=some r):jr y z=r/\EqAt A s z cy r:=by
 replace h:=um.oI h;rcases h with⟨i,rfl,h⟩ |h
 ·replace h:=um.pI h;obtain⟨j,rfl,h⟩:=h;cases h;exact⟨by obtain⟨_,rfl⟩:=vx.i;rfl,lR vx vy rfl⟩
 replace h:=um.oY h;rcases h with⟨i,rfl,h⟩ |h
 ·replace h:=um.pY h;obtain⟨j,rfl,h⟩:=h;cases h;exact⟨by(obtain⟨_,zq1,_⟩:=(vx.y);clear vx;subst zq1);show(i.toArray==j.toArray)=(i==j);rw[HN];simp,lR vx vy rfl⟩
 replace h:=um.pB h;obtain⟨i,rfl,h⟩:=h;replace h:=um.pB h;obtain⟨j,rfl,h⟩:=h;cases h;exact⟨by rw[vx.b];rfl,lR vx vy rfl⟩
theorem ad4(vy:VR B μ y cy):∀{xs:List AV}{tA:List CE}{r:Bool},tK B μ xs tA->gO (λx=>gI x y) xs=some r->(∀z∈tA,EqAt A s z cy (jr y z))/\tA.any (jr y)=r:=by
 intro zi
 induction zi with
 |nil=>
 exact @λZ r hv h=>by rw[hv.n];cases h;exact⟨λz hz=>(nomatch hz),rfl⟩
 |cons x xs ih=>
 exact @λZ r hv h=>by
  obtain⟨_,_,rfl,vx,hv⟩:=hv.c;obtain⟨a,h1,h⟩:=FQ.mp h;obtain⟨b,h2,rfl⟩:=Es.mp h;obtain⟨e1,e2⟩:=ahz (A:=A) (s:=s) vx vy h1;obtain⟨g1,g2⟩:=ih hv h2;refine⟨λz hz=>?_,by rw[Jb,e1,g2]⟩;rcases CX.mp hz with rfl |hz
  ·rw[e1];exact e2
  ·exact g1 z hz
theorem jz{a:CF}(e:h.get? a=some {cls:=.type "tuple",data:=.seq (Dg tA)}):h.IsTuple a tA.toArray:=(lY _ e rfl 0 rfl)
theorem Inv.dict{w:CW}(I:Inv prog w B U μ H h){p:Nat}{a:CF}{es:List (List UInt8×AV)}(hp:μ[p]?=some a)(hl:dv H p=some es):
  ∃kvs,h.DictOf (bytesKind prog w) a kvs/\kvs.map (·.1)=es.map (·.1)/\tK B μ (es.map (·.2)) (kvs.map (·.2))/\es.length<=2000:=by
 have hl':H[p]?=some (.dict es):=by
  clear I hp;delta dv at hl
  cases q:H[p]? with
  |none=>rw[q] at hl;cases hl
  |some o=>rw[q] at hl;cases o<;>cases hl;rfl
 (obtain⟨ob,h1,zq2,_⟩:=I.objs p a _ hp hl';obtain⟨kvs,h2,h3,h4,h5⟩:=zq2);exact(cY kvs (IS.mpr (ae ob h1 h2)) h3 h4 h5)
theorem ur.v7(k:Nat):(ee k==sysModules)=false:=by
 match k with
 |3 |4 |0 |1 |2 |_+5=>rfl
theorem rC(I:Inv c.prog c.w B c.U μ H s.heap)(G:ur c.prog c.w B){p:Nat}{a:CF}(hp:μ[p]?=some a):(a==sysModules)=false:=by rw[EL];rintro rfl;obtain⟨o,e⟩:=G.mods;have h1:=I.fresh _ (Eg.mpr ⟨p,hp⟩);rw[e] at h1;cases h1
theorem acE(I:Inv c.prog c.w B c.U μ H s.heap){x:AV}{r:Bool}(vx:VR B μ x cx)(vy:VR B μ (.tup vs) cy)(h:gO (λy=>gI y x) vs=some r):
  ((∀t,Q (.bool r) {s with toks:=t})->CH (CG c.prog c.w) A (compareOp .In cx cy) Q E s)/\((∀t,Q (.bool (!r)) {s with toks:=t})->CH (CG c.prog c.w) A (compareOp .NotIn cx cy) Q E s):=by
 (obtain⟨a,tA,zq2,hb,hv⟩:=(vy.t);clear vy;subst zq2);obtain⟨g1,rfl⟩:=ad4 (A:=A.in1) (s:=s) vx hv h;exact⟨λhq=>in_tupleAt (jr x) (jz (I.base _ _ hb)) (λz hz=>g1 z (by simpa using hz)) (by simpa using hq s.toks),λhq=>notIn_tupleAt (jr x) (jz (I.base _ _ hb)) (λz hz=>g1 z (by simpa using hz)) (by simpa using hq s.toks)⟩
theorem adY(I:Inv c.prog c.w B c.U μ H s.heap)(G:ur c.prog c.w B){x:AV}{r:Bool}(vx:VR B μ x cx)(vy:VR B μ y cy)(h:kn H x y=some r):
  ((∀t,Q (.bool r) {s with toks:=t})->CH (CG c.prog c.w) A (compareOp .In cx cy) Q E s)/\((∀t,Q (.bool (!r)) {s with toks:=t})->CH (CG c.prog c.w) A (compareOp .NotIn cx cy) Q E s):=by
 replace h:=um.oI h;rcases h with⟨x,rfl,h⟩ |h
 ·replace h:=um.oY h;rcases h with⟨b,rfl,h⟩ |h
  ·obtain⟨t,rfl⟩:=vx.i;(obtain⟨u,zq1,_⟩:=(vy.y);clear vy;subst zq1);obtain⟨hx,h⟩:=um.pQ h;cases h;exact⟨λhq=>in_gives (DR _ _ _) Ks Kr (Kq _ _) (ab6 hx.1 hx.2) (hq s.toks),
    λhq=>notIn_gives (DR _ _ _) Ks Kr (Kq _ _) (ab6 hx.1 hx.2) (hq s.toks)⟩
  replace h:=um.oT h;rcases h with⟨vs,rfl,h⟩ |h
  ·exact acE I vx vy h
  replace h:=um.pG h;obtain⟨k,rfl,h⟩:=h;obtain⟨hk,h⟩:=um.pQ h;cases h;obtain⟨t,rfl⟩:=vx.i;rw[vy.d.1];obtain⟨kvs,h1,h2⟩:=G.tabI k hk;have e:=mD (k:=x) h2.1;have Ap:=h1.keep I.base;exact⟨λhq=>wpAny_in_of (nP _ _) (ur.v7 k) Ap.mapOf (by rw[e];exact hq _),λhq=>wpAny_notIn_of (nP _ _) (ur.v7 k) Ap.mapOf (by rw[e];exact hq _)⟩
 replace h:=um.oY h;rcases h with⟨k,rfl,h⟩ |h
 ·replace h:=um.oT h;rcases h with⟨vs,rfl,h⟩ |h
  ·exact acE I vx vy h
  replace h:=um.pD h;obtain⟨p,es,rfl,hp,h⟩:=h;cases h;(obtain⟨t,zq1,_⟩:=(vx.y);clear vx;subst zq1);(obtain⟨a,zq1,ha⟩:=(vy.r);clear vy;subst zq1);obtain⟨kvs,h1,h2,h3,_⟩:=I.dict ha hp;have e:=mD (k:=k) h2;exact⟨λhq=>wpAny_in_of (lZ _ _) (rC I G ha) h1.mapOf (by rw[e];exact hq _),λhq=>wpAny_notIn_of (lZ _ _) (rC I G ha) h1.mapOf (by rw[e];exact hq _)⟩
 replace h:=um.pB h;obtain⟨x,rfl,h⟩:=h;replace h:=um.pL h;obtain⟨p,xs,rfl,hp,h⟩:=h;(obtain⟨a,zq1,ha⟩:=(vy.r);clear vy;subst zq1);obtain⟨tA,n,h1,h2,_⟩:=I.list ha hp;obtain⟨g1,rfl⟩:=ad4 (A:=A.in1) (s:=s) vx h2 h;exact⟨λhq=>in_listAt (jr (.bool x)) (gP h1) (λz hz=>g1 z (by simpa using hz)) (by simpa using hq s.toks),λhq=>notIn_listAt (jr (.bool x)) (gP h1) (λz hz=>g1 z (by simpa using hz)) (by simpa using hq s.toks)⟩
theorem pb{f:Int->Int->Bool}{x:AV}{r:Bool}{o:CmpOp}(vx:VR B μ x cx)(vy:VR B μ y cy)(h:(aF none x λx=>aF none y λy=>some (f x y))=some r)(k:∀{x y:Int}{t u:Tok},Q (.bool (f x y)) s->CH (CG c.prog c.w) A (compareOp o (.int x t) (.int y u)) Q E s)
  (hq:Q (.bool r) s):CH (CG c.prog c.w) A (compareOp o cx cy) Q E s:=by
 replace h:=um.pI h;obtain⟨x,rfl,h⟩:=h;replace h:=um.pI h;obtain⟨y,rfl,h⟩:=h;cases h;obtain⟨_,rfl⟩:=vx.i;obtain⟨_,rfl⟩:=vy.i;exact k hq
theorem kN(I:Inv c.prog c.w B c.U μ H s.heap)(G:ur c.prog c.w B){o:yG}{x:AV}{r:Bool}(vx:VR B μ x cx)(vy:VR B μ y cy)(h:bj H o x y=some r)(hu:A.units+10<=9800)
  (hq:∀t,Q (.bool r) {s with toks:=t}):CH (CG c.prog c.w) A (compareOp (dJ o) cx cy) Q E s:=by
 cases o with
 |eq=>exact(adX I vx vy h hu).1 (hq s.toks)
 |ne=>(obtain⟨b,h1,zq2⟩:=Es.mp h;clear h;subst zq2);exact(adX I vx vy h1 hu).2 (hq s.toks)
 |lt=>exact pb (f:=λx y=>decide (x<y)) vx vy h (λh=>lt_int h) (hq s.toks)
 |le=>exact pb (f:=λx y=>decide (x<=y)) vx vy h (λh=>le_int h) (hq s.toks)
 |gt=>exact pb (f:=λx y=>decide (x>y)) vx vy h (λh=>gt_int h) (hq s.toks)
 |ge=>exact pb (f:=λx y=>decide (x>=y)) vx vy h (λh=>ge_int h) (hq s.toks)
 |isin=>exact(adY I G vx vy h).1 hq
 |uo=>(obtain⟨b,h1,zq2⟩:=Es.mp h;clear h;subst zq2);exact(adY I G vx vy h1).2 hq
end
end
section
variable {c:tN}
theorem aeu{value slice:CJ}{o i:CE}(h:ItemOn (CG c.prog c.w) A E o i Q s):CH (CG c.prog c.w) A (subscriptTail value slice o i) Q E s:=by
 obtain⟨T,id,hl,hT,h⟩:=h;unfold subscriptTail;refine wpAny_bind ?_;rw[getitemInPython_of_ne hT.not_modules];refine wpAny_bind (DS hT hl ?_);have fin:CH (CG c.prog c.w) A (subscripted slice false o i) (λr ul=>CH (CG c.prog c.w) A (letTemporaryGo value o r>>=λZ=>pure r) Q E ul) E s:=by
  have hs:subscripted slice false o i=operate [o,i] (getItem o i)\/subscripted slice false o i=operate [i,o] (getItem o i):=by
   cases slice with
   |Slice _ _ z _=>
    cases z with
    |none=>exact .inr rfl
    |some _=>exact .inl rfl
   |_=>exact .inl rfl
  have k:CH (CG c.prog c.w) A (getItem o i) (λr ul=>CH (CG c.prog c.w) A (letTemporaryGo value o r>>=λZ=>pure r) Q E ul) E s:=C7 h (λr ul vP=>wpAny_bind (wpAny_letTemporaryGo (wpAny_pure vP))) λZ Z x=>x
  rcases hs with hs |hs<;>rw[hs]<;>exact M1 k
 first
  |exact wpAny_pure (wpAny_bind fin)
  |exact wpAny_bind (wpAny_pure (wpAny_bind fin))
  |exact wpAny_bind fin
theorem acf{n:Int}(h:IntsAre tA (n::ns)):∃t r,tA=.int n t::r/\IntsAre r ns:=by cases h;exact(bR _ _ rfl ‹_›)
theorem aiB:∀{ns:List Int}{tA:List CE},IntsAre tA ns->∀{i:Nat}{v:Int},ns[i]?=some v->∃t,tA[i]?=some (.int v t):=by
 intro zi
 induction zi with
 |nil=>
 exact @λZ Z i v e=>by simp at e
 |cons n ns ih=>
 exact @λZ h i v e=>by
  (obtain⟨t,r,zq2,h2⟩:=acf h;clear h;subst zq2)
  cases i with
  |zero=>cases e;exact⟨t,rfl⟩
  |succ i=>exact ih h2 (i:=i) e
theorem rk:∀{ns:List Int}{tA:List CE},IntsAre tA ns->tA.length=ns.length:=by
 intro zi
 induction zi with
 |nil=>
 exact @λZ h=>by cases h;rfl
 |cons n ns ih=>
 exact @λZ h=>by(obtain⟨t,r,zq2,h2⟩:=acf h;clear h;subst zq2);exact CN (·+1) (ih h2)
theorem cH{a:CF}{n:Nat}(e:h.get? a=some {cls:=.type "list",data:=.seq (Dg tA) n}):h.IsList a tA.toArray:=(lY _ e rfl n rfl)
theorem rz{xs:List α}{i:Int}{v:α}(h0:0<=i)(h:xs[i.toNat]?=some v)(hl:xs.length<=al):i<xs.length/\i<16777216:=by have:=(List.getElem?_eq_some_iff.mp h).1;rw[dN] at hl;exact amr h0 hl this
theorem aim{b:List UInt8}{i:Int}(vx:VR B μ (.bytes b) cx)(h:av none (0<=i) ((b[i.toNat]?).map λc=>AV.int c.toNat)=some v)(hq:∀t cv,VR B μ v cv->Q cv {s with toks:=t}):ItemOn (CG c.prog c.w) A E cx (.int i t) Q s:=by
 obtain⟨h0,h⟩:=um.pQ h;(obtain⟨u,h1,zq2⟩:=Es.mp h;clear h;subst zq2);(obtain⟨t',zq1,hs⟩:=(vx.y);clear vx;subst zq1);have hl:=rz h0 h1 hs
 refine(ax "bytes" _ IQ.lookup (DR _ _ _) (getItem_bytes (Nat.le_trans hs (by decide)) h0 hl.1 ?_))
 rw[show(b.getD i.toNat 0)=u by rw[List.getD_eq_getElem?_getD,h1];rfl];exact hq _ _ (.int _ _)
theorem ait(I:Inv c.prog c.w B c.U μ H s.heap){p:Nat}{xs:List AV}{i:Int}(hp:az H p=some xs)(vx:VR B μ (.ref p) cx)(h:jy xs i=some v)(hq:∀t cv,VR B μ v cv->Q cv {s with toks:=t}):ItemOn (CG c.prog c.w) A E cx (.int i t) Q s:=by
 (obtain⟨a,zq1,ha⟩:=(vx.r);clear vx;subst zq1);obtain⟨tA,n,h1,h2,h3⟩:=I.list ha hp;have uc:tA.toArray.size=xs.length:=h2.length;unfold jy at h
 split at h
 ·rename_i h0
  have hl:=rz h0 h h3;obtain⟨cv,h4,h5⟩:=h2.get h
  exact(ax "list" _ IA ((cH h1).typeIs) (MX (cH h1) h0 (Fp hl.2 (by decide)) (by simpa using h4) (hq s.toks _ h5)))
 ·replace h:=um.pQ (q:=0<=i+xs.length) h;obtain⟨h0,h⟩:=h;obtain⟨cv,h4,h5⟩:=h2.get h;rw[dN] at h3
  exact(ax "list" _ IA ((cH h1).typeIs) (wpAny_getItem_list_neg (cH h1) (by exact ams (by assumption)) (by rw[uc];exact amt uc h0) (by omega) (by rw[uc];simpa using h4) (hq s.toks _ h5)))
theorem aiu(I:Inv c.prog c.w B c.U μ H s.heap){vs:List AV}{i:Int}(vx:VR B μ (.tup vs) cx)(h:av none (0<=i/\i<1000) (vs[i.toNat]?)=some v)(hq:∀t cv,VR B μ v cv->Q cv {s with toks:=t}):ItemOn (CG c.prog c.w) A E cx (.int i t) Q s:=by
 obtain⟨⟨h0,h0'⟩,h⟩:=um.pQ h;(obtain⟨a,tA,zq2,hb,hv⟩:=(vx.t);clear vx;subst zq2);have hl:=(List.getElem?_eq_some_iff.mp h).1;obtain⟨cv,h4,h5⟩:=hv.get h;have ht:IsTup s.heap a tA.toArray:=(lY _ (I.base _ _ hb) rfl _ rfl)
 refine(ax "tuple" _ slot_tuple_getitem.lookup ht.typeIs (getItem_tuple (j:=i.toNat) ht (by omega) (by omega) ?_ (by simpa using h4) (hq s.toks _ h5)))
 have hn:¬i<0:=by exact amu h0 h0'
 have uc:tA.toArray.size=vs.length:=hv.length;have h1:i<vs.length:=by exact amv h0 h0' hl uc
 simp[seqIndex?,hn,h0,uc,h1,hv.length]
theorem ais(I:Inv c.prog c.w B c.U μ H s.heap){i:Int}(vx:VR B μ (.tX ns) cx)(h:av none (0<=i) ((ns[i.toNat]?).map AV.int)=some v)(hq:∀t cv,VR B μ v cv->Q cv {s with toks:=t}):ItemOn (CG c.prog c.w) A E cx (.int i t) Q s:=by
 obtain⟨h0,h⟩:=um.pQ h;(obtain⟨u,h1,zq2⟩:=Es.mp h;clear h;subst zq2);(obtain⟨a,tA,zq2,zq3,hv,hs⟩:=(vx.f);clear vx;subst zq2;obtain⟨o,e,q⟩:=zq3);have hl:=rz h0 h1 hs;obtain⟨t',h4⟩:=aiB hv h1;have xg:s.heap.IsList a tA.toArray:=(ae o (I.base _ _ e) q)
 exact(ax "list" _ IA xg.typeIs (MX xg h0 (Fp hl.2 (by decide)) (by simpa using h4) (hq s.toks _ (.int _ _))))
theorem aoV(I:Inv c.prog c.w B c.U μ H s.heap)(G:ur c.prog c.w B){x:AV}(vx:VR B μ x cx)(vy:VR B μ y cy)(h:eJ H x y=some v)
  (hq:∀t cv,VR B μ v cv->Q cv {s with toks:=t}):ItemOn (CG c.prog c.w) A E cx cy Q s:=by
 replace h:=um.oI h;rcases h with⟨i,rfl,h⟩ |h
 ·obtain⟨t,rfl⟩:=vy.i;replace h:=um.oY h;rcases h with⟨b,rfl,h⟩ |h
  ·exact aim vx h hq
  replace h:=um.oL h;rcases h with⟨p,xs,rfl,hp,h⟩ |h
  ·exact ait I hp vx h hq
  replace h:=um.oT h;rcases h with⟨vs,rfl,h⟩ |h
  ·exact aiu I vx h hq
  replace h:=um.oF h;rcases h with⟨ns,rfl,h⟩ |h
  ·exact ais I vx h hq
  replace h:=um.pG h;obtain⟨k,rfl,h⟩:=h;obtain⟨hk,h⟩:=um.pQ h;rw[vx.d.1];obtain⟨kvs,h1,h2⟩:=G.tabI k hk;have Ap:=h1.keep I.base;obtain⟨cv,h5,h6⟩:=sQ h2.1 (h2.2 μ) h
  exact(ax "dict" _ MP.lookup Ap.mapOf.typeIs (MY (nP _ _) Ap.mapOf h5 (hq _ _ h6)))
 replace h:=um.pY h;obtain⟨k,rfl,h⟩:=h;(obtain⟨t,zq1,_⟩:=(vy.y);clear vy;subst zq1);replace h:=um.pD h;obtain⟨p,es,rfl,hp,h⟩:=h;(obtain⟨a,zq1,ha⟩:=(vx.r);clear vx;subst zq1);obtain⟨kvs,h1,h2,h3,h4⟩:=I.dict ha hp;obtain⟨cv,h5,h6⟩:=sQ h2 h3 h
 exact(ax "dict" _ MP.lookup h1.mapOf.typeIs (MY (lZ _ _) h1.mapOf h5 (hq _ _ h6)))
inductive uF(B:CL)(μ:List CF):List AV->CE->Prop
 |none:uF B μ [] .none
 |some {v:AV} {c:CE}:VR B μ v c->uF B μ [v] c
theorem tK.take{B:CL}{μ:List CF}:∀{n:Nat}{vs:List AV}{cs:List CE},tK B μ vs cs->tK B μ (vs.take n) (cs.take n)
 |0,_,_,_=>.nil
 |_+1,[],_,h=>by rw[h.n];exact .nil
 |_+1,_::_,_,h=>by obtain⟨_,_,rfl,h,hs⟩:=h.c;exact .cons h (tK.take hs)
theorem tK.drop{B:CL}{μ:List CF}:∀{n:Nat}{vs:List AV}{cs:List CE},tK B μ vs cs->tK B μ (vs.drop n) (cs.drop n)
 |0,_,_,h=>h
 |_+1,[],_,h=>by rw[h.n];exact .nil
 |n+1,_::_,_,h=>by(obtain⟨_,_,zq2,_,hs⟩:=(h.c);clear h;subst zq2);exact tK.drop (n:=n) hs
theorem tK.every{B:CL}{μ:List CF}{st:Nat}:∀{n:Nat}{vs:List AV}{cs:List CE},tK B μ vs cs->tK B μ (every st n vs) (Internal.every st n cs)
 |0,_,_,_=>.nil
 |_+1,[],_,h=>by rw[h.n];exact .nil
 |_+1,_::_,_,h=>by obtain⟨_,_,rfl,h,hs⟩:=h.c;exact .cons h (tK.every (tK.drop (n:=st-1) hs))
theorem qP{α:Type}{st:Nat}:∀(m k:Nat)(ys:List α),ys.length<=m->ys.length<=k->every st m ys=every st k ys
 |0,k,ys,h1,h2=>by rw[GC.mp (LM.mp h1)];clear h2;cases k<;>rfl
 |m+1,k,[],h1,h2=>by clear h2;cases k<;>rfl
 |m+1,0,y::ys,h1,h2=>CP h2 (Nat.not_succ_le_zero _)
 |m+1,k+1,y::ys,h1,h2=>CN (y::·) (qP m k _ (by rw[Dj];exact Nat.le_trans (DQ _ _) (Hn h1)) (by rw[Dj];exact Nat.le_trans (DQ _ _) (Hn h2)))
theorem abS{α:Type}{st:Nat}:∀{n:Nat}{vs:List α},(every st n vs).length<=n
 |0,_=>Nat.le_refl _
 |_+1,[]=>Ec _
 |_+1,_::_=>EK abS
theorem abu(xs:List α)(lo hi:Nat):(xs.drop (min lo xs.length)).take (min hi xs.length-min lo xs.length)=cut xs lo hi:=by
 unfold cut;apply Ie;intro i;simp only[Jl,Hi]
 by_cases h1:min lo xs.length+i<xs.length
 ·have Cc:lo+i<xs.length:=by exact amw h1
  have e:min lo xs.length=lo:=by exact amx h1
  rw[e]
  split<;>split<;>first |rfl |(exfalso;omega)
 ·have Cc:¬lo+i<xs.length:=by exact amy h1
  rw[Dw (amz h1),Dw (l:=xs) (i:=lo+i) (amA Cc)]
  split<;>split<;>rfl
theorem aok(xs:List α)(st:Nat)(hs:0<st):∀(n:Nat)(k a:Nat),n=(xs.drop a).length->k=(xs.length-a+st-1)/st->
  ((CS k).map (λj=>a+st*j)).filterMap (xs[·]?)=every st n (xs.drop a):=by
 intro n
 induction n using LZ with
 |ind n ih=>
  intro k a hn hk
  by_cases ha:a<xs.length
  ·have hd:xs.drop a=xs[a]::xs.drop (a+1):=KV ha
   cases n with
   |zero=>rw[Dj] at hn;exact(amB ha hn).elim
   |succ n=>
   rw[hd];have wY:k=(xs.length-(a+st)+st-1)/st+1:=by
    subst hk
    by_cases hb:a+st<=xs.length
    ·rw[show xs.length-a+st-1=(xs.length-(a+st)+st-1)+st by exact amC hs ha hb,Lv _ hs]
    ·rw[show xs.length-(a+st)=0 by exact amD hb,EV,GJ (show st-1<st by exact rT hs)];rw[show xs.length-a+st-1=(xs.length-a-1)+st by exact amE hs ha hb,Lv _ hs,GJ (amF ha hb)]
   rw[wY,Ll,DY,GB,Iv,Is,List.getElem?_eq_getElem ha];show xs[a]::_=xs[a]::_;congr 1;rw[Gd];rw[Jg];have e:((λj=>a+st*j)∘Nat.succ)=λj=>(a+st)+st*j:=by funext j;show a+st*(j+1)=_;rw[LW];exact amG
   rw[e];have hlen:n=(xs.drop (a+1)).length:=by rw[Dj] at hn⊢;exact amH ha hn
   have:=ih ((xs.drop (a+st)).length) (by rw[Dj];rw[Dj] at hlen;exact amI hs ha hn hlen) _ (a+st) rfl rfl;rw[this,show a+1+(st-1)=a+st by exact amJ hs];exact qP _ _ _ (Nat.le_refl _) (by rw[Dj];rw[Dj] at hlen;exact amK hs ha hn hlen)
  ·have hd:xs.drop a=[]:=Hf (akp ha);rw[hd];have:k=0:=by
    rw[hk,show xs.length-a=0 by exact amL ha,EV];exact GJ (rT hs)
   clear hk;subst this;clear ih hn;cases n<;>rfl
theorem adK(b:List UInt8)(lo hi:Option Nat):KBy.picked b.toArray (lo.map λn:Nat=>(n:Int)) (hi.map λn:Nat=>(n:Int))=(cut b (lo.getD 0) (hi.getD b.length)).toArray:=by
 rw[KBc.picked_eq];congr 1;simp only[Dk];have e1:(lo.map λn:Nat=>(n:Int)).elim 0 (clipAt b.length)=min (lo.getD 0) b.length:=by
  cases lo with
  |none=>simp
  |some n=>exact Iy _ _
 have e2:(hi.map λn:Nat=>(n:Int)).elim b.length (clipAt b.length)=min (hi.getD b.length) b.length:=by
  cases hi with
  |none=>simp
  |some n=>exact Iy _ _
 rw[e1,e2];exact abu b _ _
theorem qD(xs:List α)(lo hi:Nat):(cut xs lo hi).length<=xs.length:=by unfold cut;rw[Dj,Dn];exact amM
theorem tK.cut{lo hi:Nat}{vs:List AV}(h:tK B μ vs cs):tK B μ (cut vs lo hi) (Internal.cut cs lo hi):=(h.take).drop
theorem ajc(xs:List CE)(lo hi:Option Nat):slicePick xs.toArray (lo.map λn:Nat=>(n:Int)) (hi.map λn:Nat=>(n:Int)) none=(cut xs (lo.getD 0) (hi.getD xs.length)).toArray:=by
 rw[slicePick_plain];congr 1;simp only[Dk];have e1:(lo.map λn:Nat=>(n:Int)).elim 0 (clipAt xs.length)=min (lo.getD 0) xs.length:=by
  cases lo with
  |none=>simp
  |some n=>exact Iy _ _
 have e2:(hi.map λn:Nat=>(n:Int)).elim xs.length (clipAt xs.length)=min (hi.getD xs.length) xs.length:=by
  cases hi with
  |none=>simp
  |some n=>exact Iy _ _
 rw[e1,e2];exact abu xs _ _
theorem aa9(a b:Nat):max (0:Int) (min (a:Int) (b:Int))=((min a b:Nat):Int):=by
 rw[KC (Int.le_min.mpr ⟨DU _,DU _⟩)];rcases Jw a b with h |h
 ·rw[EJ h,Int.min_eq_left (DV.mpr h)]
 ·rw[Fu h,Int.min_eq_right (DV.mpr h)]
theorem ajd(xs:List CE)(lo hi st:Nat)(hs:0<st):slicePick xs.toArray (some (lo:Int)) (some (hi:Int)) (some (st:Int))=(every st xs.length (cut xs lo hi)).toArray:=by
 unfold slicePick;congr 1;have e:sliceBounds (some (lo:Int)) (some (hi:Int)) (some (st:Int)) xs.toArray.size=(((min lo xs.length:Nat):Int),((min hi xs.length:Nat):Int),(st:Int)):=by
  unfold sliceBounds;simp only[Dk,Fv];have h1:((st:Int)>0):=by exact ads hs
  have h2:¬((lo:Int)<0):=by exact adt
  have h3:¬((hi:Int)<0):=by exact adt
  simp only[h1,h2,h3,if_true,Fj];exact JD (aa9 lo _) (JD (aa9 hi _) rfl)
 rw[e];show(sliceRange _ _ _).filterMap _=_;have ate:cut xs lo hi=(xs.take (min hi xs.length)).drop (min lo xs.length):=by
  unfold cut
  by_cases h1:hi<=xs.length
  ·rw[EJ h1]
   by_cases h2:lo<=xs.length
   ·rw[EJ (ak9 h2)]
   ·rw[Hf (by rw[Dn];exact amN h1 h2),Hf (by rw[Dn];exact amO h1 h2)]
  ·rw[EH (i:=hi) (adl h1),EH (i:=min hi xs.length) (adu h1)]
   by_cases h2:lo<=xs.length
   ·rw[EJ h2]
   ·rw[Hf (adl h2),Hf (adu h2)]
 rw[ate];refine cX (min lo xs.length) λl hL=>?_;refine cX (min hi xs.length) λu hU=>?_;have hu:u<=xs.length:=by exact amQ hU
 have hlen:(xs.take u).length=u:=by rw[Dn];exact amR hu
 have hr:sliceRange (l:Int) (u:Int) (st:Int)=(CS ((u-l+st-1)/st)).map λj=>l+st*j:=by
  unfold sliceRange;have h1:((st:Int)>0):=by exact ads hs
  simp only[h1,if_true];have hc:(if(l:Int)<u then((u:Int)-l+st-1)/st else 0).toNat=(u-l+st-1)/st:=by
   split
   ·rw[show((u:Int)-l+st-1)=((u-l+st-1:Nat):Int) by exact amS hs hlen (by assumption),<-KG];rfl
   ·rw[show u-l=0 by exact amT hlen (by assumption),EV,GJ (rT hs)];rfl
  rw[hc];apply List.map_congr_left;intro j _;have:(l:Int)+(st:Int)*(j:Int)=((l+st*j:Nat):Int):=by push_cast;rfl
  rw[this];rfl
 rw[hr];have key:=aok (xs.take u) st hs _ _ l rfl (by rw[hlen]);have same:((CS ((u-l+st-1)/st)).map λj=>l+st*j).filterMap (xs.toArray[·]?)=((CS ((u-l+st-1)/st)).map λj=>l+st*j).filterMap ((xs.take u)[·]?):=by
  have fc:∀(l:List Nat)(f g:Nat->Option CE),(∀x∈l,f x=g x)->l.filterMap f=l.filterMap g:=by
   intro l f g h
   induction l with
   |nil=>rfl
   |cons x l ih=>rw[GB,GB,h x (by simp),ih λy hy=>h y (by simp[hy])]
  apply fc;intro p hp;(obtain⟨j,hj,zq2⟩:=Dz.mp hp;clear hp;subst zq2);rw[Fq] at hj;have:l+st*j<u:=by have h1:(j+1)*st<=u-l+st-1:=Nat.le_trans (Eh _ hj) (Nat.div_mul_le_self _ _);rw[Lz,Nat.one_mul,Jx] at h1;exact amU hs hlen h1
  simp[Jl,this]
 rw[same,key];exact qP _ _ _ (Nat.le_refl _) (by rw[Dj,hlen];exact amV hu hlen)
theorem kO{b:List UInt8}{sl:CF}{vl vu:CE}{lo hi:Option Nat}(hb:b.length<=al)(hs:s.heap.IsSliceOf sl vl vu .none)
  (pl:IsPart vl (lo.map λn:Nat=>(n:Int))) (pu:IsPart vu (hi.map λn:Nat=>(n:Int))) (hq:∀t' k,Q (.bytes (cut b (lo.getD 0) (hi.getD b.length)).toArray t') {s with toks:=k}):
  ItemOn (CG c.prog c.w) A E (.bytes b.toArray t) (.ref sl) Q s:=by
 refine(ax "bytes" _ IQ.lookup (DR _ _ _) (getItem_meets (DR _ _ _) (by decide) IQ FB.entry_bytes_getitem (FB.args_bytes_getitem_2 _ _) (KBc.meets_slice2 b.toArray t _ pl pu) ⟨hs,?_,?_⟩))
 ·rw[adK,Dk,fG];have:=qD b (lo.getD 0) (hi.getD b.length);rw[dN] at hb;exact amW hb this
 ·rw[adK];exact hq
theorem aea{a sl:CF}{xs ys:List AV}{cys:List CE}{n:Nat}{vl vu vs:CE}{lo hi st:Option Int}(I:Inv c.prog c.w B c.U μ H s.heap)(h1:s.heap.get? a=some {cls:=.type "list",data:=.seq (Dg tA) n})(hl:tA.length<=al)
  (hs:s.heap.IsSliceOf sl vl vu vs) (pl:IsPart vl lo) (pu:IsPart vu hi) (ps:IsPart vs st) (h0:st≠some 0) (e:slicePick tA.toArray lo hi st=cys.toArray) (hy:tK B μ ys cys) (hyl:ys.length<=al)
  (P:tj c s B μ VR (.ok (.ref H.length) (H++[.list ys]):R AV) Q E):
  ItemOn (CG c.prog c.w) A E (.ref a) (.ref sl) Q s:=by
 refine(ax "list" _ IA ((cH h1).typeIs) (wpAny_getItem_list_slice (cH h1) hs pl pu ps h0 ?_ (by rw[Dk,fG];exact hl)))
 rw[e];exact P B _ _ s.toks _ (λZ Z e=>e) (Pre.snoc _ _) (acV I hy hyl) (.ref _ _ (kt I.len))
theorem sf{c:CE}(h:uF B μ [] c):c=.none:=by cases h;rfl
theorem kE{c:CE}{i:Int}(h:uF B μ [.int i] c):∃t,c=.int i t:=by cases h with |some h=>exact h.i
theorem adG{i:Int}(h:0<=i):(some i:Option Int)=((some i.toNat).map λn:Nat=>(n:Int)):=by rw[Ma,G8 h]
theorem nQ{i:Int}(h:0<=i):IsPart (.int i t) ((some i.toNat).map λn:Nat=>(n:Int)):=by rw[<-adG h];exact .int i t
theorem agU{xs:List α}{n m:Nat}(h:xs.length<=m):(xs.drop n).length<=m:=by rw[Dj];exact Nat.le_trans (DQ _ _) h
theorem aqc{xs:List α}{n m:Nat}(h:xs.length<=m):(xs.take n).length<=m:=by rw[Dn];exact Nat.le_trans (D9 _ _) h
section
variable {x:AV}{lo hi st:List AV}{vl vu vs:CE}{sl:CF}
theorem ao9(I:Inv c.prog c.w B c.U μ H s.heap){p:Nat}{xs:List AV}{l u t:Int}(hp:az H p=some xs)(vx:VR B μ (.ref p) cx)(pl:uF B μ [.int l] vl)(pu:uF B μ [.int u] vu)(ps:uF B μ [.int t] vs)(hs:s.heap.IsSliceOf sl vl vu vs)(h:cg l/\cg u/\0<t/\t<ji)
  (P:tj c s B μ VR (.ok (.ref H.length) (H++[.list (every t.toNat xs.length (cut xs l.toNat u.toNat))]):R AV) Q E):ItemOn (CG c.prog c.w) A E cx (.ref sl) Q s:=by
 (revert h;refine r_aaa λzq0 zq1 h5 h6=>?_;obtain⟨h1,h2⟩:=zq0;obtain⟨h3,h4⟩:=zq1);obtain⟨_,rfl⟩:=kE pu;obtain⟨_,rfl⟩:=kE pl;obtain⟨_,rfl⟩:=kE ps;(obtain⟨a,zq1,ha⟩:=(vx.r);clear vx;subst zq1);obtain⟨tA,n,g1,g2,g3⟩:=I.list ha hp;refine aea (xs:=xs) (lo:=some l) (hi:=some u) (st:=some t) (cys:=every t.toNat xs.length (cut tA l.toNat u.toNat)) I g1 (by rw[g2.length];exact g3) hs (.int _ _) (.int _ _) (.int _ _) (λe=>by clear P h6 ps hs;cases e;cases h5) ?_ g2.cut.every (Nat.le_trans abS g3) P;have:=ajd tA l.toNat u.toNat t.toNat (Int.pos_iff_toNat_pos.mp h5);rw[G8 h1,G8 h3,G8 (EQ h5)] at this;rw[this,g2.length]
theorem adZ(I:Inv c.prog c.w B c.U μ H s.heap){p:Nat}{xs:List AV}{l u:Option Int}(hp:az H p=some xs)(vx:VR B μ (.ref p) cx)(pl:IsPart vl l)(pu:IsPart vu u)(hs:s.heap.IsSliceOf sl vl vu .none)(hl:∀i,l=some i->0<=i)(hu:∀i,u=some i->0<=i)
  (P:tj c s B μ VR (.ok (.ref H.length) (H++[.list (cut xs ((l.map DH).getD 0) ((u.map DH).getD xs.length))]):R AV) Q E):ItemOn (CG c.prog c.w) A E cx (.ref sl) Q s:=by
 (obtain⟨a,zq1,ha⟩:=(vx.r);clear vx;subst zq1);obtain⟨tA,n,g1,g2,g3⟩:=I.list ha hp;have nat:∀o:Option Int,(∀i,o=some i->0<=i)->(o.map DH).map (λn:Nat=>(n:Int))=o:=λo h=>by
  cases o with
  |none=>rfl
  |some i=>exact(adG (h i rfl)).symm
 refine aea (xs:=xs) (lo:=l) (hi:=u) (st:=none) (cys:=cut tA ((l.map DH).getD 0) ((u.map DH).getD tA.length)) I g1 (by rw[g2.length];exact g3) hs pl pu .none nofun ?_ (by rw[g2.length];exact g2.cut) (Nat.le_trans (qD ..) g3) P;have:=ajc tA (l.map DH) (u.map DH)
 rwa [nat l hl,nat u hu] at this
theorem ao8(I:Inv c.prog c.w B c.U μ H s.heap)(vx:VR B μ x cx)(pl:uF B μ lo vl)(pu:uF B μ hi vu)(ps:uF B μ st vs)
  (hs:s.heap.IsSliceOf sl vl vu vs) (P:tj c s B μ VR (dB H x lo hi st) Q E):ItemOn (CG c.prog c.w) A E cx (.ref sl) Q s:=by
 replace P:=tj.o0 P;rcases P with⟨rfl,P⟩ |P
 ·obtain rfl:=sf ps;replace P:=P.o0;rcases P with⟨rfl,P⟩ |P
  ·obtain rfl:=sf pl;replace P:=P.p1;obtain⟨u,rfl,P⟩:=P;replace P:=P.pI;obtain⟨u,rfl,P⟩:=P;obtain⟨_,rfl⟩:=kE pu;replace P:=P.oY;rcases P with⟨b,rfl,P⟩ |P
   ·obtain⟨h,P⟩:=P.pQ;(obtain⟨t,zq1,hb⟩:=(vx.y);clear vx;subst zq1);refine kO (lo:=none) (hi:=some u.toNat) hb hs .none (nQ h.1) λt' k=>P.now I ?_;exact .bytes _ _ (aqc hb)
   replace P:=P.pL;obtain⟨p,xs,rfl,hp,P⟩:=P;obtain⟨h,P⟩:=P.pQ;exact adZ I hp vx .none (.int u _) hs nofun (λi e=>by cases e;exact h.1) P
  replace P:=P.p1;obtain⟨l,rfl,P⟩:=P;replace P:=P.pI;obtain⟨l,rfl,P⟩:=P;obtain⟨_,rfl⟩:=kE pl;replace P:=P.o0;rcases P with⟨rfl,P⟩ |P
  ·obtain rfl:=sf pu;replace P:=P.oY;rcases P with⟨b,rfl,P⟩ |P
   ·obtain⟨h,P⟩:=P.pQ;(obtain⟨t,zq1,hb⟩:=(vx.y);clear vx;subst zq1);refine kO (lo:=some l.toNat) (hi:=none) hb hs (nQ h.1) .none λt' k=>P.now I ?_;show VR B μ _ (.bytes (Je l.toNat (b.take b.length)).toArray t');rw[FI];exact .bytes _ _ (agU hb)
   replace P:=P.pL;obtain⟨p,xs,rfl,hp,P⟩:=P;obtain⟨h,P⟩:=P.pQ;refine adZ I hp vx (.int l _) .none hs (λi e=>by cases e;exact h.1) nofun ?_;show tj c s B μ VR (.ok _ (H++[.list (Je l.toNat (xs.take xs.length))])) Q E;rw[FI];exact P
  replace P:=P.p1;obtain⟨u,rfl,P⟩:=P;replace P:=P.pI;obtain⟨u,rfl,P⟩:=P;obtain⟨_,rfl⟩:=kE pu;replace P:=P.pY;obtain⟨b,rfl,P⟩:=P;obtain⟨h,P⟩:=P.pQ;(obtain⟨t,zq1,hb⟩:=(vx.y);clear vx;subst zq1);exact kO (lo:=some l.toNat) (hi:=some u.toNat) hb hs (nQ h.1.1) (nQ h.2.1) λt' k=>P.now I (.bytes _ _ (Nat.le_trans (qD ..) hb))
 replace P:=P.pL;obtain⟨p,xs,rfl,hp,P⟩:=P;replace P:=P.p1;obtain⟨l,rfl,P⟩:=P;replace P:=P.p1;obtain⟨u,rfl,P⟩:=P;replace P:=P.p1;obtain⟨t,rfl,P⟩:=P;replace P:=P.pI;obtain⟨l,rfl,P⟩:=P;replace P:=P.pI;obtain⟨u,rfl,P⟩:=P;replace P:=P.pI;obtain⟨t,rfl,P⟩:=P;obtain⟨h,P⟩:=P.pQ;exact ao9 I hp vx pl pu ps hs h P
end
end
theorem ah7:typeLookup (.type "bytes") "__bytes__"=pure (some (.builtin "bytes.__bytes__")):=by rw[ED,EC];kernel_rfl
section
variable {w:CW}
theorem af5{b:Array UInt8}(hQ:Q (.bytes b t) s):
  codeAny (CG prog w) A (.call (.builtin "bytes.__new__") ⟨[.type "bytes",.bytes b t],[]⟩) (wants Q E) s:=by
 refine HG ?_
 show CH _ A.in1 (do Fi "bytes.__new__" ⟨[.type "bytes",.bytes b t],[]⟩;again (.builtin "bytes.__new__" ⟨[.type "bytes",.bytes b t],[]⟩)) _ _ s
 refine wpAny_bind (Da (F.bm_newCall _) (wpAny_pure ⟨GS HT _,JN F.bm_entry ?_⟩));rw[HK HT _];unfold Builtin.«bytes.__new__»;refine wpAny_bind (Da (a:=true) rfl ?_);refine DL rfl ?_;refine wpAny_bind (Da F.bm_sub ?_);refine DL rfl ?_;refine wpAny_bind (Da (F.bm_bind _) ?_);refine wpAny_bind (Da (a:=()) rfl ?_);refine wpAny_bind (Da (a:=()) rfl ?_);refine DL rfl ?_;refine wpAny_bind (DS (DR s b t) ah7 ?_);refine wpAny_bind (HJ ?_);refine wpAny_bind (IF (DR s b t) ?_);refine GR rfl ?_;exact wpAny_pure hQ
theorem agg{b:Array UInt8}(hQ:Q (.bytes b t) s):CH (CG prog w) A (call (.type "bytes") [.bytes b t]) Q E s:=by
 refine JL (Q₁:=λobj tz=>tz.TypeIs obj "bytes"/\Q obj tz) Gx (Kn _) Ko
  (af5 ⟨Mr _ _ _,hQ⟩) λobj tz tC=>?_
 exact⟨tC.1,Km obj _,MK Gx.init.lookup Gx.made (by decide) prog w A.in1 _ tz ⟨tC.1,rfl,tC.2⟩⟩
theorem aie{b:Array UInt8}{Q:Bool->CI->Prop}(h:Q false s):CH (CG prog w) A (Kk (.bytes b t)) Q E s:=by
 have hT:=DR s b t;unfold Kk;refine wpAny_bind (DS hT FB.slot_bytes_len.lookup ?_)
 refine cX (("bytes.__len__":String)) λid0 hid=>?_
 wp_delta
 rw[show splitId id0=some ("bytes","__len__") from by subst hid;decide+kernel]
 subst hid
 refine wpAny_bind (GT (T:="bytes") (b:=true) hT (by rw[Iz];kernel_rfl) ?_)
 refine JW (λym=>CP ym (by decide)) (λZ=>?_);refine JW (λZ=>?_) (λym=>CP (by decide+kernel) ym);refine wpAny_bind (IF hT ?_);exact wpAny_pure h
theorem ahq{R:Result->CI->Prop}{b:Array UInt8}(hh:A.handled=none)(S:CF)(hS:s.heap.get? S=some {cls:=.type "list",data:=.seq #[]})(hn:b.size<=sizeLine)
  (hR:∀h' tk wi c',(∀b o,b≠S->s.heap.get? b=some o->h'.get? b=some o)->h'.get? S=some {cls:=.type "list",dict:=none,data:=.seq wi c',slots:=#[]}->ItemsOf (λi v=>∃c u,b[i]?=some c/\v=.int (c.toNat:Int) u) wi b.size->R (.ok (.ret .none)) {s with heap:=h',toks:=tk}):
  CH (CG prog w) A.in1 (HR (.ref S) (.bytes b t) .none)
   (λfin s'=>match fin with | .done f=>R (.ok f) s' | .again c'=>c'.quiet=true/\codeAny (CG prog w) A c' R s') (λe s'=>R (.error e) s') s:=by
 have hSI:S≠s.heap.objs.size:=CV (Dh hS);have hSf:S∉[s.heap.objs.size]:=by simp only[CX,DK,DM];exact hSI
 have W:=KBw.walks (prog:=prog) (w:=w) (A:=A.in1) hh s.heap.objs.size b t;have key:∀(h:CL)(c₁ tk:Nat),I7 h s.heap.objs.size b t 0->(∀b o,b≠S->s.heap.get? b=some o->h.get? b=some o)->
   h.get? S=some {cls:=.type "list",data:=.seq #[] c₁}->codeAny (CG prog w) A (.builtin "list.extend.loop" ⟨[.ref S,.ref s.heap.objs.size,.none],[]⟩) R {s with heap:=h,toks:=tk}:=by
  intro h c₁ tk y4 hk xf;refine codeAny_extend_loopS W.toS hn S hSf .none b.size 0 _ #[] c₁ rfl (Ec _) y4 xf (ItemsOf.nil _) λs' wi c' hm BL yn=>?_;rw[Moved.eq_with hm];refine hR s'.heap s'.toks wi c' (λb o hb e=>hm.heap b o (λxV=>?_) (hk b o hb e)) BL yn;rcases CX.mp xV with e' |xV
  ·exact hb e'
  ·exact CP (Dh e) (by rw[DJ.mp xV];exact CY _)
 unfold HR
 refine wpAny_bind (IF (T:="bytes") (DR s b t) ?_)
 have h1:Nb (.ref S) (.bytes b t)=false:=rfl
 have h2:(Fw "bytes"==Fw "list")=false:=by decide
 have h3:(Fw "bytes"==Fw "tuple")=false:=by decide
 simp -iota only[h1,h2,h3,Gv,Fn,Fj];refine wpAny_bind (KN ?_)
 have hit:I7 (s.heap.push {cls:=.type "bytes_iterator",data:=.fields #[.bytes b t,.int 0 0]}) s.heap.objs.size b t 0:=(aI _ (DG _ rfl) rfl rfl)
 have xf:=Dc ({cls:=.type "bytes_iterator",data:=.fields #[.bytes b t,.int 0 0]}:Obj) hS
 refine wpAny_bind (DB (aie ?_));refine JW (λZ=>?_) (λZ=>wpAny_pure ⟨GS Mi _,key _ _ _ hit (λb o Z e=>Dc _ e) xf⟩);refine wpAny_bind (HJ ?_);refine wpAny_bind ?_;show CH _ _ (updateSeq S (·.push .none)>>=λZ=>updateSeq S (·.pop)) _ _ _;refine wpAny_bind (J3 xf rfl ?_);have xK:=Eu (GP (·.push Do)) xf rfl;refine J3 (hz:=by seq_fits) xK rfl ?_;have ass:=Eu (GP (·.pop)) xK rfl;refine wpAny_pure ⟨GS Mi _,key _ _ _ ?_ (λb o hb e=>?_) ass⟩
 ·refine W.frame 0 _ _ hit λb hb o e=>?_;have hbS:b≠S:=λh=>hSf (h▸hb);exact(Ek _ _ (Du hbS)).trans ((Ek _ _ (Du hbS)).trans e)
 ·exact(Ek _ _ (Du hb)).trans ((Ek _ _ (Du hb)).trans (Dc _ e))
theorem agh{b:Array UInt8}(hh:A.handled=none)(hn:b.size<=sizeLine)
  (hQ:∀h' tk wi c',(∀b o,s.heap.get? b=some o->h'.get? b=some o)->h'.get? s.heap.objs.size=some {cls:=.type "list",dict:=none,data:=.seq wi c',slots:=#[]}->ItemsOf (λi v=>∃c u,b[i]?=some c/\v=.int (c.toNat:Int) u) wi b.size->Q (.ref s.heap.objs.size) {s with heap:=h',toks:=tk}):
  CH (CG prog w) A (call (.type "list") [.bytes b t]) Q E s:=by
 refine JL (Q₁:=λobj tz=>obj=.ref s.heap.objs.size/\tz={s with heap:=s.heap.push {cls:=.type "list",data:=.seq #[]}}) PySem.F.called_list (PySem.F.typeCall_list_1 _) PySem.F.entry_list_init
  (code_list_new _ ⟨rfl,rfl⟩) λobj tz tC=>?_
 obtain⟨rfl,rfl⟩:=tC
 have hS:(s.heap.push {cls:=.type "list",data:=.seq #[]}).get? s.heap.objs.size=some {cls:=.type "list",data:=.seq #[]}:=DG _ rfl
 refine⟨(ae _ hS rfl),PySem.F.args_list_init_2 _ _,?_⟩;show CH _ _ (do let old<-Kj (.ref s.heap.objs.size);Ng (.ref s.heap.objs.size) (λZ=>#[]);letGo old.toList.reverse;HR (.ref s.heap.objs.size) (.bytes b t) .none) _ _ _
 refine wpAny_bind ?_;unfold Kj;refine wpAny_bind (wpAny_seqItems hS rfl (wpAny_pure ?_));show CH _ _ (updateSeq s.heap.objs.size (λZ=>#[])>>=λZ=>letGo (#[]:Array CE).toList.reverse>>=λZ=>HR (.ref s.heap.objs.size) (.bytes b t) .none) _ _ _;refine wpAny_bind (J3 hS rfl ?_);have xK:=Eu (GP (λZ=>(#[]:Array CE))) hS rfl;refine wpAny_bind (wpAny_letGo ?_);refine ahq (A:=A.in1) hh _ xK hn λh' tk wi c' hk BL yn=>⟨rfl,hQ h' tk wi c' (λb o e=>?_) BL yn⟩;exact hk b o (CV (Dh e)) ((Ek _ _ (C2 (Dh e))).trans (Dc _ e))
end
theorem pM{g:AV->Option α}{r:List AV}{ns:List α}(h:jT g (v::r)=some ns):∃x ms,ns=x::ms/\g v=some x/\jT g r=some ms:=by obtain⟨x,e1,h⟩:=FQ.mp h;(obtain⟨ms,h1,zq2⟩:=Es.mp h;clear h;subst zq2);exact(ax x ms rfl e1 h1)
theorem tK.u9:∀{xs:List AV}{tA:List CE}{ns:List Int},tK B μ xs tA->Internal.u9 xs=some ns->IntsAre tA ns:=by
 intro zi
 induction zi with
 |nil=>
 exact @λZ Z hv h=>by cases h;rw[hv.n];exact .nil
 |cons v r ih=>
 exact @λZ Z hv h=>by
  obtain⟨x,ms,rfl,e,h2⟩:=pM h;obtain⟨_,_,rfl,hv,hs⟩:=hv.c;rcases kz (C:=λr=>r=some x) e with⟨i,rfl,e⟩ |e
  ·clear h;cases e;obtain⟨t,rfl⟩:=hv.i;exact .cons _ t (ih hs h2)
  ·cases e
theorem tK.bools:∀{xs:List AV}{tA:List CE}{ns:List Bool},tK B μ xs tA->Internal.bools xs=some ns->KT tA ns:=by
 intro zi
 induction zi with
 |nil=>
 exact @λZ Z hv h=>by cases h;rw[hv.n];exact .nil
 |cons v r ih=>
 exact @λZ Z hv h=>by
  obtain⟨x,ms,rfl,e,h2⟩:=pM h;obtain⟨_,_,rfl,hv,hs⟩:=hv.c;rcases rW (C:=λr=>r=some x) e with⟨i,rfl,e⟩ |e
  ·clear h;cases e;rw[hv.b];exact .cons _ (ih hs h2)
  ·cases e
theorem ahI:∀(ns:List Int)(n:Int),(ns.foldl max n=n\/ns.foldl max n∈ns)/\n<=ns.foldl max n/\∀a∈ns,a<=ns.foldl max n:=by
 intro zi
 induction zi with
 |nil=>
 exact @λn=>⟨.inl rfl,Int.le_refl _,λa h=>by cases h⟩
 |cons x ns ih=>
 exact @λn=>by
  obtain⟨h1,h2,h3⟩:=ih (max n x);rw[ER];refine⟨?_,by exact(Ed (Ky ..) h2),λa ha=>?_⟩
  ·rcases h1 with h1 |h1
   ·rw[h1];rcases Int.le_total n x with q |q
    ·exact .inr (by rw[KC q];exact Dy)
    ·exact .inl (Int.max_eq_left q)
   ·exact .inr (Dt _ h1)
  ·rcases CX.mp ha with rfl |ha
   ·exact Ed (Kz ..) h2
   ·exact h3 a ha
theorem ahJ{n M:Int}(h1:M∈n::ns)(h2:∀a∈n::ns,a<=M):M=ns.foldl max n:=by
 obtain⟨g1,g2,g3⟩:=ahI ns n;apply Int.le_antisymm
 ·rcases CX.mp h1 with rfl |h1
  ·exact g2
  ·exact g3 M h1
 ·rcases g1 with g1 |g1
  ·rw[g1];exact h2 n Dy
  ·exact h2 _ (Dt _ g1)
section
variable {w:CW}{l:CF}{vs:List CE}
theorem ajr(hh:A.handled=none)(hl:s.heap.IsList l vs.toArray)(hi:IntsAre vs ns)(uu:0<ns.length)
  (h:∀h' M (t:Tok) tk,(∀b o,s.heap.get? b=some o->h'.get? b=some o)->M∈ns->(∀a,a∈ns->a<=M)->Q (.int M t) {s with heap:=h',toks:=tk}):
  CH (CG prog w) A (call (.builtin "max") [.ref l]) Q E s:=by
 obtain⟨xs,e⟩:=(hi.allInts.items);have yw:ns=xs.toList.map (·.1):=by rw[<-hi.numsOf,<-nums_intItems,<-e]
 have uc:0<xs.size:=by have h3:=uu;rw[yw,List.length_map,HL] at h3;exact h3
 rw[e] at hl;refine max_intList hh hl uc λv h' tk hv hk=>?_;obtain⟨t,rfl⟩:=intItems_at hv;obtain⟨h1,h2⟩:=argBest_gt (numAt xs) (xs.size-1);refine h _ _ t tk hk ?_ λa ha=>?_
 ·rw[yw,numAt_eq];exact getD_mem (by rw[List.length_map,HL];exact Nat.lt_of_le_pred uc h1)
 ·rw[yw] at ha;(obtain⟨j,hj,zq2⟩:=mem_getD ha;clear ha;subst zq2);rw[List.length_map,HL] at hj;rw[<-numAt_eq];exact h2 j (LK hj)
theorem aff{bs:List Bool}(hh:A.handled=none)(hl:s.heap.IsList l vs.toArray)(hb:KT vs bs)
  (h:∀h' tk,(∀b o,s.heap.get? b=some o->h'.get? b=some o)->Q (.bool (bs.all id)) {s with heap:=h',toks:=tk}):CH (CG prog w) A (call (.builtin "all") [.ref l]) Q E s:=by
 have x9:l<s.heap.objs.size:=by obtain⟨_,e,_⟩:=hl;exact Dh e
 refine call_all_walk (M2 hl ?_);refine(dU s.heap.objs.size ([s.heap.objs.size,l]) [s.heap.objs.size] vs.toArray.size _ _ (kg (λi=>(bs[i]?).getD true) rfl (Walks.list (A:=A.in1) hh _ l (CV x9) vs.toArray) ⟨(aI _ (DG _ rfl) rfl rfl),hl.push _⟩ (λi v s' Q' E' hP hQ=>?_) (λh' tk hk=>?_)))
 ·(obtain⟨b,e,zq2⟩:=hb.get i v (by simpa using hP);clear hP;subst zq2);simp only[e,Fv] at hQ;exact EY hQ
 ·have e:((CS vs.toArray.size).all λi=>(bs[i]?).getD true)=bs.all id:=by
   rw[Dk,hb.length];exact LSm.range_all bs
  rw[e];exact h h' tk (LSm.kept_iter hk)
end
section
variable {c:tN}
theorem tj.ext{a:AV}(P:tj c s B μ VR (.ok a H:R AV) Q E)(I:Inv c.prog c.w B c.U μ H s.heap){t:Nat}(k:∀b o,s.heap.get? b=some o->h'.get? b=some o)(v:VR B μ a cv):Q cv {s with heap:=h',toks:=t}:=P.now (I.ext k) v
theorem tj.push{a:AV}{o:Obj}(P:tj c s B μ VR (.ok a H:R AV) Q E)(I:Inv c.prog c.w B c.U μ H s.heap){t:Nat}(ho:(s.heap.push o).get? s.heap.objs.size=some o)
  (v:∀B',B.StaysIn B'->B'.get? s.heap.objs.size=some o->VR B' μ a cv):Q cv {s with heap:=s.heap.push o,toks:=t}:=by
 obtain⟨B',h1,h2,J⟩:=(I.push o).vQ ho I.nextM I.wF;exact P B' μ _ t cv h1 (Pre.refl _) J (v B' h1 h2)
theorem tj.new{o:Obj}{t:Nat}{a:CF}(P:tj c s B μ VR (.ok (.ref H.length) (H++[ao]):R AV) Q E)(I:Inv c.prog c.w B c.U μ H s.heap)(k:∀b o,s.heap.get? b=some o->h'.get? b=some o)(ha:s.heap.objs.size<=a)
  (e:h'.get? a=some o) (ho:OR B μ c.prog c.w ao o) (hf:¬d6 o):Q (.ref a) {s with heap:=h',toks:=t}:=
 P B _ _ t _ (λZ Z e=>e) (Pre.snoc _ _) (I.xC k ha e ho hf) (.ref _ _ (kt I.len))
theorem jC{o:Obj}{xs:Array CE}{n:Nat}(h:o.data=.seq xs n):¬d6 o:=λ⟨vs,q⟩=>by rw[h] at q;cases q
theorem aql(ns:List Int)(h:(ns.all λn=>decide (0<=n)&&decide (n<256))=true):byteArr ns=(ns.map λn=>CZ n.toNat).toArray:=rfl
theorem sD{a b cc:Int}(ha:dr a=true)(hb:dr b=true)(h0:0<cc)(h1:cc<1000):GU a b cc=true:=by
 unfold GU;simp only[dr,Bool.and_eq_true,C9] at ha hb;have hr:Et a b cc<=4611686018427387904/\0<=Et a b cc:=by
  unfold Et;rw[CM (KA h0)]
  split
  ·rename_i ym
   have h2:=Int.ediv_le_self cc (show(0:Int)<=b-a-1 by exact HY (IZ ym));have h3:=Kw (a:=b-a-1) (b:=cc) (HY (IZ ym)) (EQ h0);exact⟨Ed (Ed (Int.add_le_add_right h2 1) (HW (Int.sub_add_cancel ..))) (Ed (Int.sub_le_sub (EQ hb.2) ha.1) (by decide)),Ed h3 (Int.le_add_of_nonneg_right (by decide))⟩
  ·exact amY
 (revert hr;refine gn (Et a b cc) λr hr=>?_);have hc:cc>0:=h0;simp only[Nh,Bool.and_eq_true,EF,C9,Df,hc,if_true];have z:(-2^63:Int)<=cc:=Ed (by decide) (EQ h0);exact⟨⟨⟨⟨⟨Ed (by decide) ha.1,Fp ha.2 (by decide)⟩,Ed (by decide) hb.1,Fp hb.2 (by decide)⟩,z,Fp h1 (by decide)⟩,Ed (by decide) hr.2,IW hr.1 (by decide)⟩,
  .inr ⟨Ed (by decide:(-2^63:Int)<=-2305843009213693952+0) (Int.add_le_add hb.1 (HY h0)),Fp (Int.add_lt_add hb.2 (Int.sub_lt_sub_right h1 1)) (by decide)⟩⟩
theorem af4{b:List UInt8}{acc:Array CE}(h:ItemsOf (λi v=>∃c u,b.toArray[i]?=some c/\v=.int (Mz c:Int) u) acc b.toArray.size):tK B μ (b.map λc=>.int c.toNat) acc.toList:=by
 obtain⟨h1,h2⟩:=h;have key:∀(b:List UInt8)(l:List CE),l.length=b.length->(∀(j:Nat)(v:CE),l[j]?=some v->∃c u,b[j]?=some c/\v=.int (Mz c:Int) u)->tK B μ (b.map λc=>.int c.toNat) l:=by
  intro b
  induction b with
  |nil=>intro l hl _;have:l=[]:=GC.mp hl;clear hl;subst this;exact .nil
  |cons x b ih=>
   intro l hl hp
   cases l with
   |nil=>simp at hl
   |cons v l=>obtain⟨c,u,g1,g2⟩:=hp 0 v rfl;cases g1;subst g2;exact .cons (.int _ _) (ih l (by simpa using hl) λj v e=>hp (j+1) v (by simpa using e))
 exact key b acc.toList (by simpa using h1) λj v e=>by simpa using h2 j v (by simpa using e)
noncomputable def aqE(f:BI)(tA:List CE):List CE:=match f with
 | .isInt=>tA++[.type "int"]
 |_=>tA
theorem ki{n:Nat}(h:n<=al):n<=sizeLine:=h
section
variable {vs:List AV}
theorem afx(I:Inv c.prog c.w B c.U μ H s.heap)(hv:tK B μ vs tA)(P:tj c s B μ VR (aay H vs) Q E):CH (CG c.prog c.w) A (call (.builtin "len") tA) Q E s:=by
 replace P:=tj.p1 P;obtain⟨v,rfl,P⟩:=P;obtain⟨_,rfl,h⟩:=(hv.o1);replace P:=P.oY;rcases P with⟨b,rfl,P⟩ |P
 ·(obtain⟨t,zq1,hl⟩:=(h.y);clear h hv;subst zq1);rw[dN] at hl;refine EO (by rw[Dk];exact amZ hl) ?_;rw[Dk];exact P.now I (.int _ _)
 replace P:=P.oL;rcases P with⟨p,xs,rfl,hp,P⟩ |P
 ·(obtain⟨a,zq1,ha⟩:=(h.r);clear h hv;subst zq1);obtain⟨cv,n,h1,h2,h3⟩:=I.list ha hp;rw[<-h2.length,dN] at h3;rw[<-h2.length] at P;refine call_len_list (cH h1) (by rw[Dk];exact C8.mpr (Nat.lt_of_le_of_lt h3 (by decide))) ?_;rw[Dk];exact P.now I (.int _ _)
 replace P:=P.oT;rcases P with⟨xs,rfl,P⟩ |P
 ·obtain⟨x9,P⟩:=P.pQ;clear hv;obtain⟨a,cv,rfl,hb,hv⟩:=h.t;rw[<-hv.length] at P x9;refine len_tuple (jz (I.base _ _ hb)) (by rw[Dk];exact C8.mpr (CT x9 (by decide))) ?_;rw[Dk];exact P.now I (.int _ _)
 replace P:=P.pF;obtain⟨ns,rfl,P⟩:=P;(obtain⟨a,cv,zq2,zq3,hi,hl⟩:=(h.f);clear h hv;subst zq2;obtain⟨o,e,q⟩:=zq3);rw[<-rk hi,dN] at hl;rw[<-rk hi] at P;refine call_len_list (ae o (I.base _ _ e) q) (by rw[Dk];exact C8.mpr (Nat.lt_of_le_of_lt hl (by decide))) ?_;rw[Dk];exact P.now I (.int _ _)
theorem afv(I:Inv c.prog c.w B c.U μ H s.heap)(hv:tK B μ vs tA)(P:tj c s B μ VR (aaw H vs) Q E):CH (CG c.prog c.w) A (call (.type "int") tA) Q E s:=by
 replace P:=tj.p1 P;obtain⟨v,rfl,P⟩:=P;obtain⟨_,rfl,h⟩:=(hv.o1);replace P:=P.oB;rcases P with⟨b,rfl,P⟩ |P
 ·rw[h.b];exact call_int_bool (P.now I (.int _ _))
 replace P:=P.pI;obtain⟨i,rfl,P⟩:=P;clear hv;obtain⟨_,rfl⟩:=h.i;exact call_int_int (P.now I (.int _ _))
theorem afu(hh:A.handled=none)(I:Inv c.prog c.w B c.U μ H s.heap)(hv:tK B μ vs tA)(P:tj c s B μ VR (aav H vs) Q E):CH (CG c.prog c.w) A (call (.type "bytes") tA) Q E s:=by
 replace P:=tj.p1 P;obtain⟨v,rfl,P⟩:=P;obtain⟨_,rfl,h⟩:=(hv.o1);replace P:=P.oY;rcases P with⟨b,rfl,P⟩ |P
 ·(obtain⟨t,zq1,hl⟩:=(h.y);clear h hv;subst zq1);exact agg (P.now I (.bytes _ _ hl))
 replace P:=P.pL;obtain⟨p,xs,rfl,hp,P⟩:=P;replace P:=P.pO;obtain⟨ns,hn,P⟩:=P;obtain⟨hr,P⟩:=P.pQ;(obtain⟨a,zq1,ha⟩:=(h.r);clear h hv;subst zq1);obtain⟨cv,n,h1,h2,h3⟩:=I.list ha hp;have hi:=h2.u9 hn;have hl:=rk hi;rw[<-h2.length] at h3;refine call_bytes_ints (cH h1) hi (λn hm=>by simpa using C1.mp hr n hm) (ki h3) hh λh' t k hk=>?_;rw[aql ns hr];exact P.ext I hk (.bytes _ _ (by rw[List.length_map,<-hl];exact h3))
theorem afy(hh:A.handled=none)(I:Inv c.prog c.w B c.U μ H s.heap)(hv:tK B μ vs tA)(P:tj c s B μ VR (aaz H vs) Q E):CH (CG c.prog c.w) A (call (.type "list") tA) Q E s:=by
 replace P:=tj.p1 P;obtain⟨v,rfl,P⟩:=P;obtain⟨_,rfl,h⟩:=(hv.o1);replace P:=P.oY;rcases P with⟨b,rfl,P⟩ |P
 ·(obtain⟨t,zq1,hl⟩:=(h.y);clear h hv;subst zq1);refine agh hh (by rw[Dk];exact ki hl) λh' tk wi c' hk hD yn=>?_;exact P.new I hk (Nat.le_refl _) hD (ax wi.toList c' (by simp) (af4 (B:=B) (μ:=μ) yn) (by rw[List.length_map];exact hl)) (jC rfl)
 replace P:=P.pL;obtain⟨p,xs,rfl,hp,P⟩:=P;(obtain⟨a,zq1,ha⟩:=(h.r);clear h hv;subst zq1);obtain⟨cv,n,h1,h2,h3⟩:=I.list ha hp;refine call_list_seq a (.inl rfl) h1 rfl rfl (λh' c' hk hD=>?_) (by rw[Dk,h2.length];exact ki h3);exact P.new I hk (Nat.le_refl _) hD (ax cv c' rfl h2 h3) (jC rfl)
theorem afz(hh:A.handled=none)(I:Inv c.prog c.w B c.U μ H s.heap)(hv:tK B μ vs tA)(P:tj c s B μ VR (aaA H vs) Q E):CH (CG c.prog c.w) A (call (.builtin "max") tA) Q E s:=by
 replace P:=tj.p1 P;obtain⟨v,rfl,P⟩:=P;obtain⟨_,rfl,h⟩:=(hv.o1);replace P:=P.pL;obtain⟨p,xs,rfl,hp,P⟩:=P;replace P:=P.pO;obtain⟨ns,hn,P⟩:=P;(obtain⟨a,zq1,ha⟩:=(h.r);clear h hv;subst zq1);obtain⟨cv,n,h1,h2,h3⟩:=I.list ha hp
 cases ns with
 |nil=>exact P.elim
 |cons n ns=>refine ajr hh (cH h1) (h2.u9 hn) (FO _) λh' M t tk hk hm hle=>?_;rw[ahJ hm hle];exact P.ext I hk (.int _ _)
theorem afA(hh:A.handled=none)(I:Inv c.prog c.w B c.U μ H s.heap)(hv:tK B μ vs tA)(P:tj c s B μ VR (aaB H vs) Q E):CH (CG c.prog c.w) A (call (.builtin "min") tA) Q E s:=by replace P:=tj.p2 P;obtain⟨v,w,rfl,P⟩:=P;obtain⟨_,_,rfl,h,h'⟩:=(hv.o2);replace P:=P.pI;obtain⟨x,rfl,P⟩:=P;obtain⟨t,rfl⟩:=h.i;replace P:=P.pI;obtain⟨y,rfl,P⟩:=P;clear hv;obtain⟨u,rfl⟩:=h'.i;refine min_two_ints hh λh' tk hk=>?_;exact P.ext (h':=h') (t:=tk) (cv:=if y<x then .int y u else .int x t) I hk (by split<;>exact .int _ _)
theorem aft(hh:A.handled=none)(I:Inv c.prog c.w B c.U μ H s.heap)(hv:tK B μ vs tA)(P:tj c s B μ VR (pU H vs) Q E):CH (CG c.prog c.w) A (call (.builtin "all") tA) Q E s:=by replace P:=tj.p1 P;obtain⟨v,rfl,P⟩:=P;obtain⟨_,rfl,h⟩:=(hv.o1);replace P:=P.pL;obtain⟨p,xs,rfl,hp,P⟩:=P;replace P:=P.pO;obtain⟨bs,hn,P⟩:=P;(obtain⟨a,zq1,ha⟩:=(h.r);clear h hv;subst zq1);obtain⟨cv,n,h1,h2,h3⟩:=I.list ha hp;exact aff hh (cH h1) (h2.bools hn) λh' tk hk=>P.ext I hk (.bool _)
theorem afw(I:Inv c.prog c.w B c.U μ H s.heap)(hv:tK B μ vs tA)(P:tj c s B μ VR (aax H vs) Q E):CH (CG c.prog c.w) A (call (.builtin "isinstance") (tA++[.type "int"])) Q E s:=by replace P:=tj.p1 P;obtain⟨v,rfl,P⟩:=P;obtain⟨_,rfl,h⟩:=(hv.o1);replace P:=P.pI;obtain⟨i,rfl,P⟩:=P;clear hv;obtain⟨_,rfl⟩:=h.i;exact IsiPair.int_int (P.now I (.bool _))
theorem afC(I:Inv c.prog c.w B c.U μ H s.heap)(hv:tK B μ vs tA)(P:tj c s B μ VR (aaD H vs) Q E):CH (CG c.prog c.w) A (call (.type "str") tA) Q E s:=by
 replace P:=tj.p1 P;obtain⟨v,rfl,P⟩:=P;obtain⟨_,rfl,h⟩:=(hv.o1);replace P:=P.pI;obtain⟨i,rfl,P⟩:=P;clear hv;obtain⟨_,rfl⟩:=h.i;obtain⟨hi,P⟩:=P.pQ;refine PySem.P.str_of_int ?_ (P.now I (.str _ _))
 by_cases h0:i.natAbs=0
 ·rw[h0];decide
 ·exact(LN h0).mpr (Nat.lt_of_lt_of_le hi (by decide+kernel))
theorem afB(I:Inv c.prog c.w B c.U μ H s.heap)(hv:tK B μ vs tA)(P:tj c s B μ VR (aaC H vs) Q E):CH (CG c.prog c.w) A (call (.type "range") tA) Q E s:=by
 replace P:=tj.pC P;obtain⟨v,r,rfl,P⟩:=P;obtain⟨_,cs,rfl,h,hs⟩:=(hv.c);replace P:=P.pI;obtain⟨a,rfl,P⟩:=P;obtain⟨t,rfl⟩:=h.i;replace P:=P.o0;rcases P with⟨rfl,P⟩ |P
 ·rw[hs.n];obtain⟨hb,P⟩:=P.pQ;exact call_range_1 (P.push I (DG _ rfl) λB' Z e=>.uV _ _ _ _ _ _ _ e (sD (by decide) hb (by decide) (by decide)) (by decide))
 replace P:=P.pC;obtain⟨v,r,rfl,P⟩:=P;obtain⟨_,cs,rfl,g,gs⟩:=(hs.c);replace P:=P.pI;obtain⟨b,rfl,P⟩:=P;obtain⟨u,rfl⟩:=g.i;replace P:=P.o0;rcases P with⟨rfl,P⟩ |P
 ·rw[gs.n];obtain⟨hb,P⟩:=P.pQ;rw[Bool.and_eq_true] at hb;exact call_range_2 (P.push I (DG _ rfl) λB' Z e=>.uV _ _ _ _ _ _ _ e (sD hb.1 hb.2 (by decide) (by decide)) (by decide))
 replace P:=P.p1;obtain⟨v,rfl,P⟩:=P;obtain⟨_,rfl,k⟩:=(gs.o1);replace P:=P.pI;obtain⟨d,rfl,P⟩:=P;clear gs hs hv;obtain⟨u',rfl⟩:=k.i;obtain⟨hb,P⟩:=P.pQ;simp only[Bool.and_eq_true,C9] at hb;obtain⟨⟨⟨h1,h2⟩,h3⟩,h4⟩:=hb;exact call_range_3 (HX h3) (P.push I (DG _ rfl) λB' Z e=>.uV _ _ _ _ _ _ _ e (sD h1 h2 h3 h4) h3) (.inl (Mb (C8.mp (IW (HW (KE (EQ h3))) (Fp h4 (by decide))))))
end
theorem adU(hh:A.handled=none)(I:Inv c.prog c.w B c.U μ H s.heap)(f:BI){vs:List AV}(hv:tK B μ vs tA)(P:tj c s B μ VR (cT H f vs) Q E):
  CH (CG c.prog c.w) A (call (lE f) (aqE f tA)) Q E s:=by
 cases f with
 |len=>exact afx I hv P
 |int=>exact afv I hv P
 |bytes=>exact afu hh I hv P
 |list=>exact afy hh I hv P
 |bytearray=>exact P.elim
 |max=>exact afz hh I hv P
 |min=>exact afA hh I hv P
 |all=>exact aft hh I hv P
 |isInt=>exact afw I hv P
 |str=>exact afC I hv P
 |range=>exact afB I hv P
end
section
open PySem.Builtin
namespace JB
theorem slot:Slot "bytes" "join" "bytes.join":=
 .of (owner:="bytes") (n:="join") (by rw[ED,EC];kernel_rfl) (by decide+kernel) (by decide+kernel) (by decide+kernel)
  (by first |exact .inl (by decide+kernel) |exact .inr (by decide+kernel)) (by rw[Iz];kernel_rfl)
theorem entry:entryFor table "bytes.join"=some Builtin.«bytes.join»:=JP (by kernel_rfl)
theorem args(a b:CE):argsOk "bytes.join" ⟨[a,b],[]⟩:=by unfold argsOk;kernel_rfl
theorem type_eq:typeOf (.builtin "bytes.join")=pure (.type "method_descriptor"):=by show builtinType _=_;rw[ME];kernel_rfl
theorem lW:typeLookup (.type "bytes") "__buffer__"=pure (some (.builtin "bytes.__buffer__")):=by rw[ED,EC];kernel_rfl
theorem ajV:typeLookup (.type "bytes") "__release_buffer__"=pure none:=by rw[ED,EC];kernel_rfl
theorem sub_self:isSubtype (.type "bytes") (.type "bytes")=pure true:=by rw[Iz];kernel_rfl
inductive yL:List CE->List (List UInt8)->Prop
 |nil:yL [] []
 |cons (b:List UInt8) (t:Tok) {vs:List CE} {bs:List (List UInt8)}:yL vs bs->yL (.bytes b.toArray t::vs) (b::bs)
theorem yL.get{vs:List CE}{bs:List (List UInt8)}(h:yL vs bs):∀{i:Nat}{b:List UInt8},bs[i]?=some b->∃t,vs[i]?=some (.bytes b.toArray t):=by
 induction h with
 |nil=>intro i b e;cases e
 |cons b t h ih=>
  intro i b' e
  cases i with
  |zero=>cases e;exact⟨t,rfl⟩
  |succ i=>exact ih e
theorem yL.len{vs:List CE}{bs:List (List UInt8)}(h:yL vs bs):vs.length=bs.length:=by
 induction h with
 |nil=>rfl
 |cons _ _ h ih=>exact CN (·+1) ih
section
variable {w:CW}
theorem aed{b:Array UInt8}{Q:Bool->CI->Prop}(h:Q true s):CH (CG prog w) A (Bytes.slotIsOwn (.bytes b t) "__buffer__") Q E s:=by
 unfold Bytes.slotIsOwn;refine wpAny_bind (DS (DR s b t) lW ?_);refine DL (by decide+kernel) ?_
 rw[show("bytes.__buffer__".dropRight (("__buffer__":String).length+1))="bytes" from by decide+kernel]
 exact GT (DR s b t) sub_self h
theorem aon{b:Array UInt8}{Q:Bool->CI->Prop}(h:Q false s):CH (CG prog w) A (Bytes.ownRelease (.bytes b t)) Q E s:=by unfold Bytes.ownRelease Bytes.slotIsOwn;refine wpAny_bind (wpAny_bind (DS (DR s b t) ajV ?_));exact wpAny_pure (wpAny_pure h)
theorem aqb{id:String}{b:Array UInt8}{Q:Option (Array UInt8×Option CE)->CI->Prop}(h:Q (some (b,none)) s):
  CH (CG prog w) A (Bytes.takeBufferQuiet? id (.bytes b t) 0) Q E s:=by
 unfold Bytes.takeBufferQuiet?;refine wpAny_bind (JV ?_);unfold Bytes.takeBuffer?;refine wpAny_bind (DS (DR s b t) lW ?_);refine wpAny_bind (aed ?_);refine DL rfl ?_;refine wpAny_bind (DS (DR s b t) lW ?_);refine wpAny_bind ?_;unfold Bytes.buffer?;refine wpAny_bind (DS (DR s b t) lW ?_);refine wpAny_bind (aed ?_);refine DL rfl ?_;refine wpAny_bind (DS (DR s b t) lW ?_);refine wpAny_bind (aon ?_);refine DL rfl ?_;refine wpAny_bind (Da (a:=b) rfl ?_);exact wpAny_pure (wpAny_pure (wpAny_pure h))
def Plain(taken:List (CE×Option CE)):Prop:=∀x∈taken,x.1.onHeap=false/\x.2=none
theorem Plain.any{taken:List (CE×Option CE)}(h:Plain taken):(taken.any λx=>x.1.onHeap)=false:=by rw[Ia];intro x hx;rw[(h x hx).1];exact HP
theorem Plain.snoc{taken:List (CE×Option CE)}(h:Plain taken){b:Array UInt8}:Plain (taken++[(.bytes b t,none)]):=by
 intro x hx;rcases DP.mp hx with hx |hx
 ·exact h x hx
 ·rw[DJ.mp hx];exact⟨rfl,rfl⟩
theorem Plain.letGo{keep:List CE}{Q:Unit->CI->Prop}:∀{taken:List (CE×Option CE)},Plain taken->Q () s->CH (CG prog w) A (Bytes.joinLetGo taken keep) Q E s:=by
 intro zi
 induction zi with
 |nil=>
 exact @λZ h=>wpAny_pure h
 |cons zp rest ih=>
 obtain⟨x,y⟩:=zp;exact @λhp h=>by have:=(hp (x,y) Dy).2;dsimp only at this;subst this;exact wpAny_bind (wpAny_letGo (ih (λz hz=>hp z (Dt _ hz)) h))
theorem ack(sep:List UInt8):∀bs:List (List UInt8),(ct sep bs).length=sep.length*(bs.length-1)+(bs.map DO).sum
 |[]=>rfl
 |[x]=>by show x.length=sep.length*0+(x.length+0);rw[Iv,EV,Is]
 |x::y::r=>by rw[show ct sep (x::y::r)=x++sep++ct sep (y::r) from rfl,List.length_append,List.length_append,ack sep (y::r)];simp only[Di,DY,List.sum_cons];rw[show r.length+1+1-1=(r.length+1-1)+1 by exact am2,LW];exact am3
theorem ap3(sep:List UInt8)(bs:List (List UInt8))(_h:0<bs.length):J5 (λx1 x2:_=>x1+x2.size) (sep.toArray.size*(((bs.map Dg).toArray).size-1)) (bs.map Dg).toArray=(ct sep bs).length:=by
 rw[ack,List.foldl_toArray']
 ·simp only[Dk,List.length_map];refine gn (sep.length*(bs.length-1)) λn=>?_
  induction bs generalizing n with
  |nil=>rfl
  |cons b bs ih=>
   have ih':∀n,Hg (λx1 (x2:Array UInt8)=>x1+x2.size) n (bs.map Dg)=n+(bs.map DO).sum:=by
    intro n;clear ih
    induction bs generalizing n with
    |nil=>rfl
    |cons c cs ih=>rw[DY,ER,ih (by simp)];simp;exact adv
   rw[DY,ER,ih'];simp;exact adv
 ·rfl
theorem aiM(sep:List UInt8)(bs:List (List UInt8)):Bytes.joined sep.toArray (bs.map Dg)=(ct sep bs).toArray:=by
 unfold Bytes.joined;have j:∀x y r,ct sep (x::y::r)=x++sep++ct sep (y::r):=λ_ _ _=>rfl;have j1:∀x,ct sep [x]=x:=λ_=>rfl;have key:∀(bs:List (List UInt8))(acc:List UInt8)(i:Nat),0<i->(((bs.map Dg).zipIdx i).foldl (λout (x:Array UInt8×Nat)=>(if x.2>0 then out++sep.toArray else out)++x.1) acc.toArray)=(acc++(match bs with |[]=>[] |b::r=>sep++ct sep (b::r))).toArray:=by
  intro bs
  induction bs with
  |nil=>intro acc i _;simp
  |cons b r ih=>
   intro acc i hi;rw[DY,Lr,ER];dsimp only;rw[CM hi];have:(acc.toArray++sep.toArray++b.toArray)=(acc++sep++b).toArray:=by simp
   rw[this,ih _ (i+1) (Nat.add_pos_left hi 1)]
   cases r with
   |nil=>simp[j1]
   |cons c r=>simp[j]
 cases bs with
 |nil=>rfl
 |cons b r=>
  rw[DY,Lr,ER];dsimp only;rw[CQ (Eb 0)];have:((#[]:Array UInt8)++b.toArray)=b.toArray:=by simp
  rw[this,key r b 1 Fe]
  cases r with
  |nil=>simp[j1]
  |cons c r=>simp[j]
theorem arK{sep:List UInt8}{a:CF}{n:Nat}{bs:List (List UInt8)}(h1:s.heap.get? a=some {cls:=.type "list",data:=.seq (Dg tA) n})(hb:yL tA bs)
  (yJ:2<=bs.length) (uc:(ct sep bs).length<=al) (hq:∀t' k,Q (.bytes (ct sep bs).toArray t') {s with toks:=k}):
  CH (CG prog w) A (call (.builtin "bytes.join") [.bytes sep.toArray t,.ref a]) Q E s:=by
 refine ID slot (DR _ _ _) entry ?_ (args _ _);unfold Builtin.«bytes.join» Bytes.joinM;refine wpAny_bind (Da (a:=(.bytes sep.toArray t,.ref a)) rfl ?_);refine wpAny_bind ?_;show CH _ _ (Bytes.joinItems (.ref a)) _ _ _;unfold Bytes.joinItems
 refine wpAny_bind (IF (T:="list") (ae _ h1 rfl) ?_)
 refine GR rfl ?_;refine wpAny_pure ?_;have y0:∀{A:Around}{E:CE->CI->Prop}{Q:Option (Array CE)->CI->Prop}{k:Nat},Q (some tA.toArray) {s with toks:=k}->CH (CG prog w) A (seqItems? (.ref a)) Q E {s with toks:=k}:=by intro A E Q k h;unfold seqItems?;exact wpAny_bind (Gm h1 (wpAny_pure h))
 refine wpAny_bind (y0 (k:=s.toks) ?_);refine GR rfl ?_;obtain⟨c1,c2,r,rfl⟩:∃c1 c2 r,tA=c1::c2::r:=by
  have:=hb.len
  cases tA with
  |nil=>simp at this;exact(am4 yJ this).elim
  |cons c1 tA=>cases tA with
   |nil=>simp at this;exact(am5 yJ this).elim
   |cons c2 r=>exact(nK _ _ _ rfl)
 dsimp only;refine wpAny_bind ?_;rw[Mx];have hlen:=hb.len;refine MW _ (λrest st s'=>s'=s/\∃d,rest=List.range' d (bs.length-d)/\d<=bs.length/\st.1=((bs.take d).map Dg).toArray/\Plain st.2) _ ?_ ?_ _ _ (acb rfl 0 ?_ (Ec _) (by simp) (by simp[Plain]))
 ·intro x rest st s' zr4;refine rd λG kG=>?_;refine o_aeaaa zr4 λes d hr hd hp ht=>?_;have yU:d<bs.length:=by
   apply Ep hd;intro e;rw[e,FN] at hr;cases hr
  refine o_e (⟨bs.length-d-1,by exact((Jz (Ff yU)).symm)⟩:∃m,bs.length-d=m+1) λm hm=>?_;rw[hm,List.range'_succ] at hr;clear hd;obtain⟨rfl,er⟩:=Ha hr;refine o_e (hb.get (List.getElem?_eq_getElem yU)) λtk hx=>?_;have yV:(c1::c2::r).toArray.getD x Do=.bytes (bs[x]).toArray tk:=by
   rw[Array.getD_eq_getD_getElem?];have:(c1::c2::r).toArray[x]?=some (.bytes (bs[x]).toArray tk):=by simpa using hx
   rw[this];rfl
  have hn:(Bytes.Kind.bytes==Bytes.Kind.bytearray||st.2.any λx=>x.1.onHeap)=false:=by rw[ht.any];rfl
  refine kG ?_;clear hq h1 zr4 kG hr;subst es er;refine wpAny_bind (y0 (k:=s'.toks) ?_);dsimp only;rw[yV];refine DL hn ?_;refine wpAny_bind (DB (aqb ?_));dsimp only;refine wpAny_bind (y0 (k:=s'.toks) ?_);refine DL (by simp) ?_;refine wpAny_pure (acb rfl (x+1) (by rw[show bs.length-(x+1)=m by exact am6 hlen yU hm]) yU ?_ ht.snoc);rw[hp,Fb,List.getElem?_eq_getElem yU,Dx];show _=(Ij Dg (bs.take x)++[bs[x].toArray]).toArray;exact Im _ _
 ·intro st s' yc;refine rd λG kG=>?_;refine o_aeaaa yc λes d hr hd hp ht=>?_;have yU:d=bs.length:=by
   have:=CN DO hr;simp at this;exact Hm hd (LG this.symm)
  rw[yU,FI] at hp;refine kG ?_;obtain⟨parts,taken⟩:=st;clear h1 y0 yc kG;subst es hp;refine wpAny_bind (Da (a:=sep.toArray) rfl ?_);have hj:=aiM sep bs;refine DL (by rw[ap3 sep bs (L8 yJ)];unfold Bytes.tooLong;rw[fG,FU];rw[dN] at uc;exact Ey.mpr uc) ?_;rw[List.toList_toArray,hj];refine wpAny_bind (JY ?_ (by rw[Dk,fG];rw[dN] at uc;exact adw uc));refine wpAny_bind (DB (J0 ?_));refine wpAny_bind (ht.letGo ?_);exact wpAny_pure (ae _ rfl (hq _ _))
 ·rw[<-hlen];simp
end
end JB
end
section
open PySem.Builtin PySem.Builtin._codecs
namespace EN
section
variable {w:CW}
theorem aov(self:CE)(x:Str):encodeRoad "str.encode" self x (Ei "ascii") none=(do mkBytes (<-encodeNarrow "str.encode" asciiCodec none self x)):=by
 unfold encodeRoad
 rw[show(normalName (Ei "ascii")).toString="ascii" from by decide+kernel]
 first |rfl |kernel_rfl
theorem ag8(xs:List Nat):J5 (λ(acc:Array UInt8) y=>acc++(asciiCodec.bytesOf y).toArray) #[] xs.toArray=(xs.map CZ).toArray:=by
 rw[List.foldl_toArray];have key:∀(xs:List Nat)(acc:List UInt8),Hg (λ(acc:Array UInt8) y=>acc++(asciiCodec.bytesOf y).toArray) acc.toArray xs=(acc++xs.map CZ).toArray:=by
  intro xs
  induction xs with
  |nil=>intro acc;simp
  |cons x xs ih=>
   intro acc;rw[ER];have:(acc.toArray++(asciiCodec.bytesOf x).toArray)=(acc++[CZ x]).toArray:=by show acc.toArray++[x.toUInt8].toArray=_;simp
   rw[this,ih];simp
 have:=key xs []
 simpa using this
theorem ajO{Q:Array UInt8->CI->Prop}(hx:(x.cps.toList.all λc=>decide (c<128))=true)(uc:x.cps.size<=sizeLine)(hq:Q (x.cps.toList.map CZ).toArray s):
  CH (CG prog w) A (encodeNarrow "str.encode" asciiCodec none self x) Q E s:=by
 unfold encodeNarrow;refine wpAny_bind ?_;rw[Mx];have aso:∀c∈x.cps.toList,asciiCodec.bad c=false:=λc hc=>by have:=C1.mp hx c hc;simp only[C9] at this;show decide (c>=128)=false;rw[FU];exact Nat.not_le_of_lt this
 have asW:((x.cps.toList.map CZ).toArray).size<=sizeLine:=by simpa using uc
 refine MW _ (λrest st s'=>s'=s/\((st=(0,#[],{})/\rest.length=x.cps.size)\/st=(x.cps.size,(x.cps.toList.map CZ).toArray,{}))) _ ?_ ?_ _ _ ⟨rfl,.inl ⟨rfl,by simp[Str.length]⟩⟩
 ·rintro y rest st s' ⟨rfl,h⟩;rcases h with⟨rfl,hl⟩ |rfl
  ·have h0:0<x.cps.size:=by rw[<-hl];simp
   dsimp only;rw[CQ (show ¬((#[]:Array UInt8).size>sizeLine) from by simp)];rw[J6 h0];dsimp only;have hb0:asciiCodec.bad x.cps[0]=false:=aso _ (by simp);refine GR (by rw[hb0];rfl) ?_;have hex:x.cps.extract 0 x.cps.size=x.cps:=by simp
   have AZ:Array.findIdx? asciiCodec.bad (x.cps.extract 0 x.cps.size)=none:=by rw[hex,Array.findIdx?_eq_none_iff];intro c hc;rw[aso c (by simpa using hc)]
   rw[AZ,hex];dsimp only[Option.getD];rw[hex];refine wpAny_pure ⟨rfl,.inr ?_⟩;have:=ag8 x.cps.toList;rw[J9] at this;rw[this,EV]
  ·dsimp only;rw[CQ (Ey.mpr asW)];rw[J7 (Nat.le_refl _)];exact wpAny_pure (wpAny_pure hq)
 ·rintro st s' ⟨rfl,h⟩;rcases h with⟨rfl,hl⟩ |rfl
  ·have:x.cps=#[]:=by
    have:x.cps.size=0:=hl.symm;exact Array.size_eq_zero_iff.mp this
   rw[this] at hq;exact wpAny_pure hq
  ·exact wpAny_pure hq
theorem aru(hx:(x.cps.toList.all λc=>decide (c<128))=true)(uc:x.cps.size<=sizeLine)(hq:∀t' k,Q (.bytes (x.cps.toList.map CZ).toArray t') {s with toks:=k}):
  CH (CG prog w) A (call (.builtin "str.encode") [.str x t,.str (Ei "ascii") u]) Q E s:=by
 refine ID F.slot_str_encode (typeIs_str _ _ _) F.entry_str_encode ?_ (F.args_str_encode_2 _ _);unfold Builtin.«str.encode»
 refine wpAny_bind (Da (a:=(.str x t,x,[.str (Ei "ascii") u])) rfl ?_)
 refine wpAny_bind (Da (a:= [some (.str (Ei "ascii") u),none]) (by kernel_rfl) ?_)
 refine wpAny_bind (Da (a:=some (Ei "ascii")) (by kernel_rfl) ?_)
 refine wpAny_bind (Da (a:=none) (by kernel_rfl) ?_)
 rw[show((some (Ei "ascii")).getD (Ei "utf-8"))=Ei "ascii" from rfl,aov]
 refine wpAny_bind (wpAny_bind (ajO hx uc ?_));exact JY (wpAny_pure (ae _ rfl (hq _ _))) (by simpa using uc)
end
end EN
end
noncomputable def mId:MT->String
 | .append=>"list.append" | .pop=>"list.pop" | .ub=>"int.bit_length" | .toBytes=>"int.to_bytes" | .encode=>"str.encode" | .get=>"dict.get" | .join=>"bytes.join"
section
variable {c:tN}
theorem aiD(I:Inv c.prog c.w B c.U μ H s.heap)(G:ur c.prog c.w B)(hk:k=3\/k=4\/k=5):s.TypeIs (.ref (ee k)) "dict"/\(∀b,Dp (ee k)=.ref b->∃ob,s.heap.get? b=some ob/\ob.dict=none):=by
 rcases hk with rfl |rfl |rfl
 ·obtain⟨kvs,h1,_⟩:=G.tabI 3 (.inl rfl);have h:=h1.keep I.base;exact⟨h.mapOf.typeIs,h.mapOf.noDict⟩
 ·obtain⟨kvs,h1,_⟩:=G.tabI 4 (.inr rfl);have h:=h1.keep I.base;exact⟨h.mapOf.typeIs,h.mapOf.noDict⟩
 ·obtain⟨kvs,h1,_⟩:=G.tabS;have h:=h1.keep I.base;exact⟨h.mapOf.typeIs,h.mapOf.noDict⟩
theorem ahV{x:Str}{Q:CE×List CE->CI->Prop}(hq:Q (.builtin "str.encode",[.str x t]) s):CH M A (getMethod (.str x t) (Ei "encode") pl) Q E s:=by
 refine Gj (T:="str") (name:=Ei "encode") (id:="str.encode") (typeIs_str s x t) PySem.F.plainAttrs_str PySem.F.slot_str_encode PySem.F.type_str_encode ?_ hq
 intro a e;cases e
theorem aoU{Q:CE×List CE->CI->Prop}(I:Inv c.prog c.w B c.U μ H s.heap)(G:ur c.prog c.w B){m:MT}{x:AV}(vx:VR B μ x cx)(h:l9 H m x=true)(hq:Q (.builtin (mId m),[cx]) s):
  CH (CG c.prog c.w) A (getMethod cx (ma m) pl) Q E s:=by
 cases m with
 |append=>(refine o_eeaa ((ow (C:=λb=>b=true) h).resolve_right nofun) λp xs zq2 hx Z=>?_;clear h;subst zq2);(obtain⟨a,zq1,ha⟩:=(vx.r);clear vx;subst zq1);obtain⟨tA,n,h1,_⟩:=I.list ha hx;exact Gj (ae _ h1 rfl) Mh JH PySem.F.type_list_append (λb e=>by cases e;exact(ae _ h1 rfl)) hq
 |pop=>(refine o_eeaa ((ow (C:=λb=>b=true) h).resolve_right nofun) λp xs zq2 hx Z=>?_;clear h;subst zq2);(obtain⟨a,zq1,ha⟩:=(vx.r);clear vx;subst zq1);obtain⟨tA,n,h1,_⟩:=I.list ha hx;exact Gj (ae _ h1 rfl) Mh Mj PySem.F.type_list_pop (λb e=>by cases e;exact(ae _ h1 rfl)) hq
 |ub=>(refine o_ea ((kz (C:=λb=>b=true) h).resolve_right nofun) λi zq1 Z=>?_;clear h;subst zq1);obtain⟨_,rfl⟩:=vx.i;exact getMethod_int_bit_length hq
 |toBytes=>(refine o_ea ((kz (C:=λb=>b=true) h).resolve_right nofun) λi zq1 Z=>?_;clear h;subst zq1);obtain⟨_,rfl⟩:=vx.i;exact KTBy.method hq
 |encode=>(refine o_ea ((oE (C:=λb=>b=true) h).resolve_right nofun) λi zq1 Z=>?_;clear h;subst zq1);obtain⟨_,rfl⟩:=vx.s;exact ahV hq
 |get=>
  rcases rY (C:=λb=>b=true) h with⟨k,rfl,h⟩ |h
  ·obtain rfl:=vx.d.1;obtain⟨h1,h2⟩:=aiD I G (Dv h);exact Gj h1 Mg Hw Ml h2 hq
  ·(refine o_eeaa ((rX (C:=λb=>b=true) h).resolve_right nofun) λp es zq2 hp Z=>?_;clear h;subst zq2);(obtain⟨a,zq1,ha⟩:=(vx.r);clear vx;subst zq1);obtain⟨kvs,h1,_⟩:=I.dict ha hp;exact Gj h1.mapOf.typeIs Mg Hw Ml h1.mapOf.noDict hq
 |join=>
  (refine o_ea ((mo (C:=λb=>b=true) h).resolve_right nofun) λi zq1 Z=>?_;clear h;subst zq1);(obtain⟨_,zq1,_⟩:=(vx.y);clear vx;subst zq1)
  exact Gj (id:="bytes.join") (DR _ _ _) FB.plainAttrs_bytes JB.slot JB.type_eq (λb e=>nomatch e) hq
theorem tK.uH:∀{xs:List AV}{tA:List CE}{ns:List (List UInt8)},tK B μ xs tA->Internal.uH xs=some ns->JB.yL tA ns:=by
 intro zi
 induction zi with
 |nil=>
 exact @λZ Z hv h=>by cases h;rw[hv.n];exact .nil
 |cons v r ih=>
 exact @λZ Z hv h=>by
  obtain⟨x,ms,rfl,e,h2⟩:=pM h;obtain⟨_,_,rfl,hv,hs⟩:=hv.c;rcases mo (C:=λr=>r=some x) e with⟨i,rfl,e⟩ |e
  ·clear h;cases e;obtain⟨t,rfl,_⟩:=hv.y;exact .cons _ t (ih hs h2)
  ·cases e
theorem tK.dropLast(h:tK B μ vs cs):tK B μ vs.dropLast cs.dropLast:=by rw[KU,KU,h.length];exact h.take
theorem tj.upd{i:Nat}{a:CF}(P:tj c s B μ VR (.ok v (H.set i ao):R AV) Q E)(I:Inv c.prog c.w B c.U μ H s.heap)(hi:μ[i]?=some a)
  (hs:DF a s.heap h') (e:h'.get? a=some ob) (ho:OR B μ c.prog c.w ao ob) (hf:¬d6 ob) (hv:VR B μ v cv) (t:Nat):Q cv {s with heap:=h',toks:=t}:=
 P.now (I.upd hi hs e ho hf) hv
theorem sP{K:Type}[DecidableEq K][BEq K][LawfulBEq K]{es:List (K×AV)}{kvs:List (K×CE)}{k:K}{d:AV}{cd:CE}(h1:kvs.map (·.1)=es.map (·.1))(h2:tK B μ (es.map (·.2)) (kvs.map (·.2)))(hd:VR B μ d cd):
  VR B μ (((es.find? λe=>e.1==k).map (·.2)).getD d) ((valueAt kvs k).getD cd):=by
 cases q:(es.find? λe=>e.1==k) with
 |none=>rw[aqa h1 q];exact hd
 |some e=>obtain⟨cv,h3,h4⟩:=sQ (k:=k) (v:=e.2) h1 h2 (by rw[q];rfl);rw[h3];exact h4
theorem abQ{α:Type}:∀(l:List α),l.eraseIdx (l.length-1)=l.dropLast
 |[]=>rfl
 |[x]=>rfl
 |x::y::r=>by show x::(y::r).eraseIdx ((y::r).length-1)=x::(y::r).dropLast;rw[abQ (y::r)]
theorem aaJ{a b:Str}(h:(a==b)=true):a=b:=Df.mp h
theorem afP{i:Int}(h:0<=i):fo i=((Gw i:Nat):Int):=by
 unfold fo Gw
 by_cases h0:i=0
 ·clear h;subst h0;rfl
 ·rw[CQ h0]
  split
  ·rename_i q;simp only[Df] at q;exact am1 h0 q
  ·rfl
theorem aaK{b:Array UInt8}{l:List UInt8}(h:KBw.bInts b=l.map λc=>(c.toNat:Int)):b=l.toArray:=by
 unfold KBw.bInts at h;have:b.toList=l:=by
  (revert h;refine gn b.toList λm h=>?_)
  induction m generalizing l with
  |nil=>cases l with
   |nil=>rfl
   |cons _ _=>cases h
  |cons x m ih=>cases l with
   |nil=>cases h
   |cons y l=>simp only[DY,Jd] at h;obtain⟨h1,h2⟩:=h;rw[ih h2];congr 1;exact JK.mp (by exact_mod_cast h1)
 rw[<-this,J9]
theorem ajU{i:Int}(h:0<=i)(k:Nat):i%(k:Int)=((i.toNat%k:Nat):Int):=by obtain⟨n,rfl⟩:=GV h;rfl
theorem ndm{i:Int}(h:0<=i):i/256%256=((i.toNat/256%256:Nat):Int):=by obtain⟨n,rfl⟩:=GV h;rfl
theorem nmm{i:Int}(h:0<=i):i%256=((i.toNat%256%256:Nat):Int):=by obtain⟨n,rfl⟩:=GV h;rw[Nat.mod_mod];rfl
theorem apd(I:Inv c.prog c.w B c.U μ H s.heap){i n:Int}{v:Tok}(P:tj c s B μ VR (R.of ((ic i n).map .bytes) H:R AV) Q E):
  CH (CG c.prog c.w) A (call (.builtin "int.to_bytes") [.int i t,.int n u,.str (Ei "big") v]) Q E s:=by
 delta ic at P
 by_cases e:n=1
 ·subst e;rw[CM rfl] at P
  by_cases h:0<=i/\i<256
  ·rw[CM h] at P;refine KO (k:=1) (B:=256) (by decide) (by decide) h.1 h.2 λb t' k' hb hl=>?_;have:b=[CZ i.toNat].toArray:=aaK (by
    rw[hb];show [i%256]=[((CZ i.toNat).toNat:Int)];rw[GQ];exact CN (λx=>[x]) (ajU h.1 256))
   rw[this];exact P.now I (.bytes _ _ (by rw[dN];simp))
  ·rw[CQ h] at P;exact P.elim
 ·rw[CQ e] at P
  by_cases e:n=2
  ·subst e;rw[CM rfl] at P
   by_cases h:0<=i/\i<65536
   rotate_left
   ·rw[CQ h] at P;exact P.elim
   rw[CM h] at P;refine KO (k:=2) (B:=65536) (by decide) (by decide) h.1 h.2 λb t' k' hb hl=>?_;have:b=[CZ (i.toNat/256),CZ (i.toNat%256)].toArray:=aaK (by
    rw[hb];show [i/256%256,i%256]=[((CZ (i.toNat/256)).toNat:Int),((CZ (i.toNat%256)).toNat:Int)];rw[GQ,GQ];rw[ndm h.1,nmm h.1])
   rw[this];exact P.now I (.bytes _ _ (by rw[dN];simp))
  ·rw[CQ e] at P;exact P.elim
section
variable {x:AV}
theorem aji(I:Inv c.prog c.w B c.U μ H s.heap)(vx:VR B μ x cx)(hv:tK B μ vs tA)(P:tj c s B μ VR (acB H x vs) Q E):CH (CG c.prog c.w) A (call (.builtin "list.append") (cx::tA)) Q E s:=by
 replace P:=tj.p1 P;obtain⟨v,rfl,P⟩:=P;(obtain⟨AR,zq1,h⟩:=(hv.o1);clear hv;subst zq1);replace P:=P.pL;obtain⟨p,xs,rfl,hp,P⟩:=P;(obtain⟨a,zq1,ha⟩:=(vx.r);clear vx;subst zq1);replace P:=P.pQ;obtain⟨hl,P⟩:=P;obtain⟨cv,n,h1,h2,h3⟩:=I.list ha hp;refine HE JH (ae _ h1 rfl) Mf (Me _ _) (Mt a cv.toArray n AR (by rw[Dk,h2.length];exact ki h3)) ⟨h1,?_⟩;have e:=JI (l:=a) h1 (λx=>x.push AR)
 exact P.upd I ha (Gy ..).extBut e (ax (cv++[AR]) _ (CN (λx=>({cls:=.type "list",data:=.seq x _}:Obj)) (Im cv AR)) (h2.append (.cons h .nil)) (by rw[List.length_append];exact hl)) (jC rfl) .none s.toks
theorem ajk(I:Inv c.prog c.w B c.U μ H s.heap)(vx:VR B μ x cx)(hv:tK B μ vs tA)(P:tj c s B μ VR (acD H x vs) Q E):CH (CG c.prog c.w) A (call (.builtin "list.pop") (cx::tA)) Q E s:=by
 replace P:=tj.p0 P;obtain⟨rfl,P⟩:=P;rw[hv.n];replace P:=P.pL;obtain⟨p,xs,rfl,hp,P⟩:=P;(obtain⟨a,zq1,ha⟩:=(vx.r);clear vx;subst zq1);replace P:=P.pO;obtain⟨v,hv',P⟩:=P;obtain⟨cv,n,h1,h2,h3⟩:=I.list ha hp;have zN:xs[xs.length-1]?=some v:=by rw[<-List.getLast?_eq_getElem?];exact hv'
 obtain⟨cy,g1,g2⟩:=h2.get zN;have uc:cv.toArray.size=xs.length:=h2.length;have z9:xs.length-1<xs.length:=(List.getElem?_eq_some_iff.mp zN).1;refine HE Mj (ae _ h1 rfl) PySem.F.entry_list_pop (PySem.F.args_list_pop_1 _) (Np a cv.toArray n cy (by rw[uc];simpa using g1) (by rw[uc];exact ki h3)) ⟨h1,?_⟩;have e:=JI (l:=a) h1 (λx=>x.eraseIdxIfInBounds (cv.toArray.size-1))
 refine P.upd I ha (Gy ..).extBut e (ax cv.dropLast _ (CN (λx=>({cls:=.type "list",data:=.seq x _}:Obj)) ?_) h2.dropLast (by rw[Lc];exact Nat.le_trans (DQ _ _) h3)) (jC rfl) g2 s.toks
 unfold Array.eraseIdxIfInBounds;rw[dif_pos (by rw[uc];exact z9)];apply Array.toList_inj.mp;rw[Array.toList_eraseIdx];exact abQ cv
theorem ajj(I:Inv c.prog c.w B c.U μ H s.heap)(G:ur c.prog c.w B)(vx:VR B μ x cx)(hv:tK B μ vs tA)(P:tj c s B μ VR (acC H x vs) Q E):CH (CG c.prog c.w) A (call (.builtin "dict.get") (cx::tA)) Q E s:=by
 replace P:=tj.pC P;obtain⟨k,vs,rfl,P⟩:=P;obtain⟨_,_,rfl,h,hs⟩:=(hv.c);replace P:=P.o0;rcases P with⟨rfl,P⟩ |P
 ·rw[hs.n];replace P:=P.pG;obtain⟨g,rfl,P⟩:=P;replace P:=P.pQ;obtain⟨hk,P⟩:=P;replace P:=P.pI;obtain⟨i,rfl,P⟩:=P;clear hv;obtain⟨_,rfl⟩:=h.i;rw[vx.d.1];obtain⟨kvs,h1,h2⟩:=G.tabI g hk;have hd:=h1.keep I.base;refine JM Hw hd.mapOf.typeIs JG (PySem.F.args_dict_get_2 _ _) (meets_dict_get (intKind c.prog c.w) (ee g) (nP _ _) (ur.v7 g)) (ae _ hd.mapOf ?_);exact P.now I (sP h2.1 (h2.2 μ) .none)
 replace P:=P.p1;obtain⟨d,rfl,P⟩:=P;(obtain⟨_,zq1,h'⟩:=(hs.o1);clear hs;subst zq1);replace P:=P.oG;rcases P with⟨g,rfl,P⟩ |P
 ·replace P:=P.pQ;obtain⟨hk,P⟩:=P;subst hk;replace P:=P.pS;obtain⟨i,rfl,P⟩:=P;clear hv;obtain⟨_,rfl⟩:=h.s;rw[vx.d.1];obtain⟨kvs,h1,h2⟩:=G.tabS;have hd:=h1.keep I.base;refine JM Hw hd.mapOf.typeIs JG (Md _ _ _) (MJ (PySem.strKind c.prog c.w) (ee 5) (strKind_is _ _ _ _) (ur.v7 5) _) (ae _ hd.mapOf ?_);exact P.now I (sP h2.1 (h2.2 μ) h')
 replace P:=P.pD;obtain⟨p,es,rfl,hp,P⟩:=P;(obtain⟨a,zq1,ha⟩:=(vx.r);clear vx;subst zq1);replace P:=P.pY;obtain⟨i,rfl,P⟩:=P;(obtain⟨_,zq1,_⟩:=(h.y);clear h hv;subst zq1);obtain⟨kvs,h1,h2,h3,h4⟩:=I.dict ha hp;refine JM Hw h1.mapOf.typeIs JG (Md _ _ _) (MJ (bytesKind c.prog c.w) a (lZ _ _) (rC I G ha) _) (ae _ h1.mapOf ?_);exact P.now I (sP h2 h3 h')
theorem ao0(I:Inv c.prog c.w B c.U μ H s.heap)(G:ur c.prog c.w B){m:MT}(vx:VR B μ x cx)(hv:tK B μ vs tA)
  (P:tj c s B μ VR (dX H m x vs) Q E):CH (CG c.prog c.w) A (call (.builtin (mId m)) (cx::tA)) Q E s:=by
 cases m with
 |append=>exact aji I vx hv P
 |pop=>exact ajk I vx hv P
 |ub=>replace P:=tj.p0 P;obtain⟨rfl,P⟩:=P;rw[hv.n];replace P:=P.pI;obtain⟨i,rfl,P⟩:=P;obtain⟨_,rfl⟩:=vx.i;replace P:=P.pQ;obtain⟨h0,P⟩:=P;refine call_int_bit_length ?_;rw[<-afP h0];exact P.now I (.int _ _)
 |toBytes=>replace P:=tj.p2 P;obtain⟨n,e,rfl,P⟩:=P;obtain⟨_,_,rfl,h,h'⟩:=(hv.o2);replace P:=P.pI;obtain⟨i,rfl,P⟩:=P;obtain⟨_,rfl⟩:=vx.i;replace P:=P.pI;obtain⟨n,rfl,P⟩:=P;obtain⟨_,rfl⟩:=h.i;replace P:=P.pS;obtain⟨e,rfl,P⟩:=P;obtain⟨_,rfl⟩:=(h'.s);replace P:=P.pQ;obtain⟨ho,P⟩:=P;clear h' hv;obtain rfl:=aaJ ho;exact apd I P
 |encode=>replace P:=tj.p1 P;obtain⟨e,rfl,P⟩:=P;obtain⟨_,rfl,h⟩:=(hv.o1);replace P:=P.pS;obtain⟨x,rfl,P⟩:=P;obtain⟨_,rfl⟩:=vx.s;replace P:=P.pS;obtain⟨e,rfl,P⟩:=P;obtain⟨_,rfl⟩:=(h.s);replace P:=P.pQ;obtain⟨ho,P⟩:=P;simp only[Bool.and_eq_true,C9] at ho;obtain⟨⟨h0,h1⟩,h2⟩:=ho;clear h hv;obtain rfl:=aaJ h0;exact EN.aru h1 (ki h2) λt' k=>P.now I (.bytes _ _ (by rw[List.length_map,HL];exact h2))
 |get=>exact ajj I G vx hv P
 |join=>replace P:=tj.p1 P;obtain⟨v,rfl,P⟩:=P;obtain⟨_,rfl,h⟩:=(hv.o1);replace P:=P.pY;obtain⟨sep,rfl,P⟩:=P;(obtain⟨_,zq1,_⟩:=(vx.y);clear vx;subst zq1);replace P:=P.pL;obtain⟨p,xs,rfl,hp,P⟩:=P;(obtain⟨a,zq1,ha⟩:=(h.r);clear h hv;subst zq1);replace P:=P.pO;obtain⟨bs,hn,P⟩:=P;replace P:=P.pQ;obtain⟨hl,P⟩:=P;replace P:=P.arE;obtain⟨uc,P⟩:=P;obtain⟨cv,n,h1,h2,h3⟩:=I.list ha hp;exact JB.arK h1 (h2.uH hn) hl uc λt' k=>P.now I (.bytes _ _ uc)
end
end
section
variable {c:tN}
theorem VR.handed(h:VR B μ v cv):handedIn cv=true:=by cases h<;>rfl
theorem u7.inst{x:CF}(i:u7 h k x c0 c1 c2):∃ox od,InstAt h x ox (bO k) (some od)/\Fits od k c0 c1 c2:=by refine o_eeeaaa i.at_ λox d od h1 h2 h3=>r_aa λh4 h5 h6=>?_;exact(bR ox od ⟨h1,h2,h4,by rw[h3];exact h5⟩ h6)
theorem Fits.at{od:Obj}{i:Nat}(F:Fits od k c0 c1 c2)(hk:k<2)(e:[c0,c1,c2][i]?=some cv):lookIn (fU (3*k+i)) od=some (some cv):=by
 match k,hk,i,e with
 |0,_,0,rfl=>exact F.f0
 |0,_,1,rfl=>exact F.f1
 |0,_,2,rfl=>exact F.f2
 |1,_,0,rfl=>exact F.f0
 |1,_,1,rfl=>exact F.f1
 |1,_,2,rfl=>exact F.f2
theorem aoF(I:Inv c.prog c.w B c.U μ H s.heap)(G:ur c.prog c.w B){n:Nat}{x:AV}(vx:VR B μ x cx)(h:lv x n=some v)
  (hq:∀t cv,VR B μ v cv->Q cv {s with toks:=t}):CH (CG c.prog c.w) A (getAttr cx (fU n) true) Q E s:=by
 refine o_eea ((adz (C:=λo=>o=some v) h).resolve_right nofun) λk vs e h=>?_;subst e;obtain⟨i,h1,h2⟩:=FQ.mp h;refine o_eeeeee vx.o λx v0 v1 v2 c0 c1=>r_eaaaaa λc2 e1 e2 hi A6 zm zN=>?_;subst e1 e2;obtain⟨K,hK,KF⟩:=G.kf;refine o_aaea (KF.attrs k n i h1) λg1 g2 a g3 g4=>?_;obtain⟨ox,od,J,F⟩:=(hi.mono I.base).inst;obtain⟨cv,q,hv⟩:=(tK.cons A6 (.cons zm (.cons zN .nil))).get h2;refine o_a ((oA (C:=λo=>o=some i) h1).resolve_right nofun) λhc h1=>?_;cases h1;have:=F.at hc.1 q;rw[Fc hc.2.1] at this;exact get_value (hK.keeps I.base) J (JS g1).1 (findObj_own g2 g3 g4 this) hv.handed (hq _ _ hv)
theorem ao3{Q:CE×List CE->CI->Prop}(I:Inv c.prog c.w B c.U μ H s.heap)(G:ur c.prog c.w B)(vx:VR B μ (.inst 1 vs) cx)
  (hq:Q (.ref 144,[cx]) s):CH (CG c.prog c.w) A (getMethod cx "most" pl) Q E s:=by
 refine o_eeeeee vx.o λx v0 v1 v2 c0 c1=>r_eaaaaa λc2 e1 e2 hi Z Z Z=>?_;clear vx;subst e1;obtain⟨K,hK,KF⟩:=G.kf;obtain⟨ox,od,J,F⟩:=(hi.mono I.base).inst;obtain⟨g1,g2,g3⟩:=KF.most;refine method_fn (hK.keeps I.base) J (JS g1).1 (JS g1).2 g2 (Df.mp g3) ?_ hq
 show(lookIn "most" od).map _=_
 rw[F.most];rfl
end
theorem rK{e:CJ}(h:TE vis nk pe e)(op:CmpOp):behindInMarks op e=false:=h.nice.set op
theorem ku{e:CJ}{rest:List CJ}(h:TE vis nk pe e):starEach (e::rest) env=(false,eval e env)::starEach rest env:=h.nice.star _ _
theorem rJ{e:CJ}{attr:Str}(h:mf e=true):attributeBase e attr env (eval e env)=eval e env:=by
 cases e with
 |Call f as kw pos=>
  cases f with
  |Name id p=>
   cases as with
   |nil=>
    cases kw with
    |nil=>
     have uu:(id !="super")=true:=h
     delta attributeBase;exact CM (by rw[uu];rfl)
    |cons _ _=>rfl
   |cons _ _=>rfl
  |_=>rfl
 |_=>rfl
theorem kF{vis:aN}{nk:aP}{env:Env}{pos:Pos}:∀{pes:ui}{es:List CJ},vg vis nk pes es->(backTo pos (starEach es env)).any (·.1)=false/\(backTo pos (starEach es env)).all (λx=> !x.1)=true
 | .nil,_,h=>by rw[show _=_ from h];exact⟨rfl,rfl⟩
 | .cons p ps,es,h=>by obtain⟨he,h,hs⟩:=h;(revert he h;refine gn (hd es) λf he h=>?_);(revert he hs;refine gn es.tail λfs hs he=>?_);subst he;obtain⟨h1,h2⟩:=kF (env:=env) (pos:=pos) hs;rw[ku h];exact⟨by show(false||(backTo pos (starEach fs env)).any (·.1))=false;rw[h1];rfl,by show(!false&&(backTo pos (starEach fs env)).all (λx=> !x.1))=true;rw[h2];rfl⟩
section
variable {c:tN}{n:Nat}
theorem aX{c:tN}{Rel:CL->List CF->α->β->Prop}{δ:Type}{Rel₁:CL->List CF->γ->δ->Prop}
  {Q:β->CI->Prop} {r:R γ} {f:γ->AH->R α} {Q₁:δ->CI->Prop}
  (D:u6 c env vis ρ B μ H s.heap) (P:tj c s B μ Rel (r.bind f) Q E)
  (k:∀a H' B' tB (s':CI) b,r=.ok a H'->u6 c env vis ρ B' tB H' s'.heap->Rel₁ B' tB a b->B.StaysIn B'->Pre μ tB->tj c s' B' tB Rel (f a H') Q E->Q₁ b s'):
  tj c s B μ Rel₁ r Q₁ E:=
 P.bind λa H' B' tB h' t' b e x y I v P'=>k a H' B' tB {s with heap:=h',toks:=t'} b e (D.step x y I) v x y P'
theorem apf{i:Nat}(hx:(i,x)∈vis)(ho:fy x=true):aO c n vis nk (.var i) (.Name x pos):=λA env ρ m B μ H s Q E S D P=>by
 replace P:=tj.to P E1.atM;obtain⟨v,hv,P⟩:=P.pO;refine((anO (C:=λr=>tj c s B μ VR r Q E) P).resolve_right id).elim λh1 q=>?_;obtain⟨h2,P⟩:=q
 ·simp only[fy,Bool.and_eq_true,Fh] at ho;obtain⟨hd,hc⟩:=ho;obtain⟨cv,g1,g2⟩:=D.env i x v hx hv h1;have vr:VR B μ v cv:=by
   clear h1 hv P;cases v<;>first |exact g1 |exact CP rfl (h2 _)
  rw[arm_eval_Name];refine wpAny_bind (DT ?_);rw[CQ (by simpa using hd)];exact acw D.inv S.kind g2 hc (P.now D.inv vr)
theorem eg{m:Nat}(S:ES c A env nk n m)(D:u6 c env vis ρ B μ H s.heap)
  (hg:glob? nk x=true) (hx:∃g b,B.Ns Dm g/\B.Ns Ej b/\(g x=some cv\/(g x=none/\b x=some cv))) (h:Q cv s):CH (CG c.prog c.w) A (eval (.Name x pos) env) Q E s:=by
 unfold glob? at hg;simp only[Bool.and_eq_true,Df,Fh] at hg;obtain⟨g,b,h1,h2,h3⟩:=hx;have hk:=S.Cs x hg.1;have e1:s.heap.Ns env.globals g:=by rw[S.glob];exact h1.keeps D.inv.base
 have e2:s.heap.Ns env.builtins b:=by rw[S.blt];exact h2.keeps D.inv.base
 refine Lu S.kind hk ?_ (by simpa using hg.2);rcases h3 with h3 |⟨h3,h4⟩
 ·exact loadGlobal_global e1 h3 h
 ·exact MH e1 h3 e2 h4 h
end
section
variable {c:tN}{n:Nat}
structure ut(c:tN)(n:Nat)(vis:aN)(nk:aP)(pe:PE)(e:CJ):Prop where
 t:TE vis nk pe e
 v:aO c n vis nk pe e
 b:ib c n vis nk pe e
inductive ua(c:tN)(n:Nat)(vis:aN)(nk:aP):ui->List CJ->Prop
 |nil:ua c n vis nk .nil []
 |cons {p:PE} {ps:ui} {e:CJ} {es:List CJ} (h:ut c n vis nk p e) (hs:ua c n vis nk ps es):ua c n vis nk (.cons p ps) (e::es)
theorem ua.len{es:List CJ}(hs:ua c n vis nk ps es):vg vis nk ps es:=by
 induction hs with
 |nil=>exact rfl
 |cons h _ ih=>exact⟨rfl,h.t,ih⟩
theorem ua.sound{es:List CJ}(hs:ua c n vis nk ps es):pE c n vis nk ps es:=by
 induction hs with
 |nil=>exact λA env ρ m B μ H s Q E pos S D P=>spliced_none (P.now D.inv .nil)
 |cons h _ ih=>refine λA env ρ m B μ H s Q E pos S D P=>?_;replace P:=tj.to P E2.cons;refine spliced_more (h.v A env ρ m B μ H s _ E S D (aX D P λv H' B' tB s' cv e D' v' hB tQ P'=>?_)) (ku h.t);refine ih A env ρ m B' tB H' s' _ E pos S D' (aX D' P' λvs xR yE wT wx tA e' vC CB xD vA vO=>?_);exact vO.now vC.inv (.cons (v'.mono xD vA) CB)
theorem aqf{e:CJ}(h:aO c n vis nk pe e)(he:∀env whole,isTrue e env whole=(do let v<-whole;standAt e.pos;holding [v] (truthy v))):ib c n vis nk pe e:=λA env ρ m B μ H s Q E S D P=>by
 refine wpAny_isTrue_value (h A env ρ m B μ H s _ E S D (aX D P λv H' B' tB s' cv e D' v' hB tQ P'=>?_)) (he _ _)
 cases v with
 |bool b=>cases v';exact EY (P'.now D'.inv rfl)
 |_=>exact P'.elim
theorem aoJ{o:zt}{a b:PE}{r:CJ}(ha:aO c n vis nk a l)(hb:aO c n vis nk b r):aO c n vis nk (.bin o a b) (.BinOp l (mr o) r pos):=λA env ρ m B μ H s Q E S D P=>by replace P:=tj.to P E1.bin;rw[arm_eval_BinOp];refine wpAny_bind (ha A env ρ m B μ H s _ E S D (aX D P λx H' B' tB s' cx e D' vx hB tQ P'=>wpAny_bind (DB ?_)));refine hb A env ρ m B' tB H' s' _ E S D' (aX D' P' λy xR yE wT wx cy e' vC vy xD vA vO=>?_);exact wpAny_bind (DT (M1 (adV vC.inv (vx.mono xD vA) vy vO)))
theorem ao5{a:PE}(ha:aO c n vis nk a l):aO c n vis nk (.neg a) (.UnaryOp .USub l pos):=λA env ρ m B μ H s Q E S D P=>by
 replace P:=tj.to P E1.neg;refine wpAny_UnaryOp (ha A env ρ m B μ H s _ E S D (aX D P λx H' B' tB s' cx e D' vx hB tQ P'=>?_))
 cases x with
 |int i=>cases vx;exact neg_int (P'.now D'.inv (.int _ _))
 |_=>exact P'.elim
theorem ao7{a:PE}(ha:ut c n vis nk a l):aO c n vis nk (.not a) (.UnaryOp .Not l pos)/\ib c n vis nk (.not a) (.UnaryOp .Not l pos):=by
 constructor
 ·intro A env ρ m B μ H s Q E S D P;replace P:=tj.to P E1.not;refine wpAny_UnaryOp (ha.v A env ρ m B μ H s _ E S D (aX D P λx H' B' tB s' cx e D' vx hB tQ P'=>?_))
  cases x with
  |bool b=>cases vx;exact not_of (EY (P'.now D'.inv (.bool _)))
  |_=>exact P'.elim
 ·intro A env ρ m B μ H s Q E S D P;rw[E1.not] at P;refine wpAny_isTrue_Not (ha.b A env ρ m B μ H s _ E S D ?_);revert P;refine gn (ev c.Γ a m ρ H) λr=>?_
  cases r with
  |ok v H'=>
   cases v with
   |bool b=>exact λP B' tB h' t' b' x y I v=>by cases v;exact P B' tB h' t' (!b) x y I rfl
   |_=>exact λP=>P.elim
  |exc k H'=>exact λP=>P
  |bad=>exact λP=>P.elim
theorem aoX{t a b:PE}{te r:CJ}(ht:ut c n vis nk t te)(ha:ut c n vis nk a l)(hb:ut c n vis nk b r):aO c n vis nk (.vd t a b) (.IfExp te l r pos)/\ib c n vis nk (.vd t a b) (.IfExp te l r pos):=by
 have key:∀{α β:Type}{Rel:CL->List CF->α->β->Prop}{A:Around}{env:Env}{ρ:aB}{m:Nat}{B:CL}{μ:List CF}{H:AH}{s:CI}{Q:β->CI->Prop}{E:CE->CI->Prop}{f:AV->AH->R α}{Q₁:Bool->CI->Prop},
   ES c A env nk n m->u6 c env vis ρ B μ H s.heap->tj c s B μ Rel ((ev c.Γ (.vd t a b) m ρ H).bind f) Q E->
   (∀H' B' tB (s':CI),u6 c env vis ρ B' tB H' s'.heap->tj c s' B' tB Rel ((ev c.Γ a m ρ H').bind f) Q E->Q₁ true s')->
   (∀H' B' tB (s':CI),u6 c env vis ρ B' tB H' s'.heap->tj c s' B' tB Rel ((ev c.Γ b m ρ H').bind f) Q E->Q₁ false s')->
   CH (CG c.prog c.w) A (isTrue te env (eval te env)) Q₁ E s:=by
  intro α β Rel A env ρ m B μ H s Q E f Q₁ S D P k1 k2;rw[E1.vd] at P;refine ht.b A env ρ m B μ H s _ E S D ?_;revert P;refine gn (ev c.Γ t m ρ H) λr=>?_
  cases r with
  |ok v H'=>
   cases v with
   |bool b=>
    cases b with
    |true=>
     intro P B' tB h' t' b' x y I v;obtain rfl:b'=true:=by cases v;rfl
     exact k1 H' B' tB {s with heap:=h',toks:=t'} (D.step x y I) (tj.shift P x y h' t')
    |false=>
     intro P B' tB h' t' b' x y I v;obtain rfl:b'=false:=by cases v;rfl
     exact k2 H' B' tB {s with heap:=h',toks:=t'} (D.step x y I) (tj.shift P x y h' t')
   |_=>exact λP=>P.elim
  |exc k H'=>exact λP=>P
  |bad=>exact λP=>P.elim
 have Cm:∀(r:R AV),(r.bind λa H=>R.ok a H)=r:=λr=>by cases r<;>rfl
 constructor
 ·intro A env ρ m B μ H s Q E S D P;rw[<-Cm (ev c.Γ (.vd t a b) m ρ H)] at P;refine IfExp_ (key S D P (λH' B' tB s' D' P'=>?_) (λH' B' tB s' D' P'=>?_))
  ·rw[Cm] at P';exact ha.v A env ρ m B' tB H' s' Q E S D' P'
  ·rw[Cm] at P';exact hb.v A env ρ m B' tB H' s' Q E S D' P'
 ·intro A env ρ m B μ H s Q E S D P;rw[arm_isTrue_IfExp];refine wpAny_bind (key S D P (λH' B' tB s' D' P'=>?_) (λH' B' tB s' D' P'=>?_))
  ·exact ha.b A env ρ m B' tB H' s' Q E S D' P'
  ·exact hb.b A env ρ m B' tB H' s' Q E S D' P'
end
section
variable {c:tN}{n:Nat}
theorem aoH{p:PE}{es:List CJ}{e:CJ}(hp:ut c n vis nk p e)(hs:ua c n vis nk ps es):aO c n vis nk (.band (.cons p ps)) (.BoolOp .And (e::es) pos):=by
 induction hs generalizing p e with
 |nil=>
  refine λA env ρ m B μ H s Q E S D P=>IJ (hp.v A env ρ m B μ H s _ E S D (aX D (tj.to P (E1.band.trans E3.cons)) λv H' B' tB s' cv e D' v' hB tQ P'=>?_));(obtain⟨b,q,P'⟩:=P'.pB;subst q);rw[v'.b]
  cases b with
  |true=>exact tj.now (a:=AV.bool true) (H:=H') P' D'.inv (.bool _)
  |false=>exact P'.now D'.inv (.bool _)
 |cons hq _ ih=>
  refine λA env ρ m B μ H s Q E S D P=>BoolOp_and (hp.v A env ρ m B μ H s _ E S D (aX D (tj.to P (E1.band.trans E3.cons)) λv H' B' tB s' cv e D' v' hB tQ P'=>?_));(obtain⟨b,q,P'⟩:=P'.pB;subst q);rw[v'.b];refine EY ?_
  cases b with
  |true=>exact ih hq A env ρ m B' tB H' s' Q E S D' P'
  |false=>exact P'.now D'.inv (.bool _)
theorem aoK{p:PE}{es:List CJ}{e:CJ}(hp:ut c n vis nk p e)(hs:ua c n vis nk ps es):aO c n vis nk (.bor (.cons p ps)) (.BoolOp .Or (e::es) pos):=by
 induction hs generalizing p e with
 |nil=>
  refine λA env ρ m B μ H s Q E S D P=>IJ (hp.v A env ρ m B μ H s _ E S D (aX D (tj.to P (E1.bor.trans E4.cons)) λv H' B' tB s' cv e D' v' hB tQ P'=>?_));(obtain⟨b,q,P'⟩:=P'.pB;subst q);rw[v'.b]
  cases b with
  |false=>exact tj.now (a:=AV.bool false) (H:=H') P' D'.inv (.bool _)
  |true=>exact P'.now D'.inv (.bool _)
 |cons hq _ ih=>
  refine λA env ρ m B μ H s Q E S D P=>BoolOp_or (hp.v A env ρ m B μ H s _ E S D (aX D (tj.to P (E1.bor.trans E4.cons)) λv H' B' tB s' cv e D' v' hB tQ P'=>?_));(obtain⟨b,q,P'⟩:=P'.pB;subst q);rw[v'.b];refine EY ?_
  cases b with
  |false=>exact ih hq A env ρ m B' tB H' s' Q E S D' P'
  |true=>exact P'.now D'.inv (.bool _)
theorem sR{Rel:CL->List CF->α->β->Prop}
  {Q:β->CI->Prop} {r:R AV} {g:Bool->AH->R α} {Q₁:Bool->CI->Prop}
  (D:u6 c env vis ρ B μ H s.heap) (P:tj c s B μ Rel (r.bind λv H=>match v with | .bool b=>g b H |_=>.bad) Q E)
  (k:∀b H' B' tB (s':CI),r=.ok (.bool b) H'->u6 c env vis ρ B' tB H' s'.heap->B.StaysIn B'->Pre μ tB->tj c s' B' tB Rel (g b H') Q E->Q₁ b s'):
  tj c s B μ jO (r.bind λv H=>match v with | .bool b=>.ok (.bool b) H |_=>.bad) Q₁ E:=by
 revert P
 cases r with
 |ok v H'=>
  cases v with
  |bool b=>
   intro P B' tB h' t' b' x y I v;obtain rfl:b'=b:=by cases v;rfl
   exact k b' H' B' tB {s with heap:=h',toks:=t'} rfl (D.step x y I) x y (tj.shift P x y h' t')
  |_=>exact λP=>P.elim
 |exc k H'=>exact λP=>P
 |bad=>exact λP=>P.elim
theorem R.bind_assoc(r:R α)(f:α->AH->R β)(g:β->AH->R γ):(r.bind f).bind g=r.bind λa H=>(f a H).bind g:=by cases r<;>rfl
theorem aap{p:PE}{m:Nat}:(t9 Γ (.cons p ps) m ρ H).bind (β:=AV) (λv H=>match v with | .bool b=>R.ok (.bool b) H |_=>.bad)=(ev Γ p m ρ H).bind (β:=AV) λv H=>match v with | .bool b=>(if b then(t9 Γ ps m ρ H).bind (β:=AV) (λv H=>match v with | .bool b=>R.ok (.bool b) H |_=>.bad) else .ok (.bool false) H) |_=>.bad:=by
 rw[E3.cons,R.bind_assoc];refine CN _ (funext λv=>funext λH=>?_)
 cases v with
 |bool b=>cases b<;>rfl
 |_=>rfl
theorem anT{p:PE}{m:Nat}:(vt Γ (.cons p ps) m ρ H).bind (β:=AV) (λv H=>match v with | .bool b=>R.ok (.bool b) H |_=>.bad)=(ev Γ p m ρ H).bind (β:=AV) λv H=>match v with | .bool b=>(if b then .ok (.bool true) H else(vt Γ ps m ρ H).bind (β:=AV) (λv H=>match v with | .bool b=>R.ok (.bool b) H |_=>.bad)) |_=>.bad:=by
 rw[E4.cons,R.bind_assoc];refine CN _ (funext λv=>funext λH=>?_)
 cases v with
 |bool b=>cases b<;>rfl
 |_=>rfl
theorem ap6{es:List CJ}(hs:ua c n vis nk ps es):∀(A:Around)(env:Env)(ρ:aB)(m:Nat)(B:CL)(μ:List CF)(H:AH)(s:CI)(Q:Bool->CI->Prop)(E:CE->CI->Prop),
  ES c A env nk n m->u6 c env vis ρ B μ H s.heap->tj c s B μ jO ((t9 c.Γ ps m ρ H).bind λv H=>match v with | .bool b=>.ok (.bool b) H |_=>.bad) Q E->CH (CG c.prog c.w) A (allTrue .And es env) Q E s:=by
 induction hs with
 |nil=>exact λA env ρ m B μ H s Q E S D P=>wpAny_allTrue_And_nil (tj.now (a:=AV.bool true) (H:=H) P D.inv rfl)
 |cons h _ ih=>
  refine λA env ρ m B μ H s Q E S D P=>wpAny_allTrue_And_cons (h.b A env ρ m B μ H s _ E S D ?_);refine sR D (tj.to P aap) λb H' B' tB s' e D' hB tQ P'=>?_
  cases b with
  |true=>exact ih A env ρ m B' tB H' s' Q E S D' P'
  |false=>exact P'.now D'.inv rfl
theorem ap7{es:List CJ}(hs:ua c n vis nk ps es):∀(A:Around)(env:Env)(ρ:aB)(m:Nat)(B:CL)(μ:List CF)(H:AH)(s:CI)(Q:Bool->CI->Prop)(E:CE->CI->Prop),
  ES c A env nk n m->u6 c env vis ρ B μ H s.heap->tj c s B μ jO ((vt c.Γ ps m ρ H).bind λv H=>match v with | .bool b=>.ok (.bool b) H |_=>.bad) Q E->CH (CG c.prog c.w) A (allTrue .Or es env) Q E s:=by
 induction hs with
 |nil=>exact λA env ρ m B μ H s Q E S D P=>wpAny_allTrue_Or_nil (tj.now (a:=AV.bool false) (H:=H) P D.inv rfl)
 |cons h _ ih=>
  refine λA env ρ m B μ H s Q E S D P=>wpAny_allTrue_Or_cons (h.b A env ρ m B μ H s _ E S D ?_);refine sR D (tj.to P anT) λb H' B' tB s' e D' hB tQ P'=>?_
  cases b with
  |false=>exact ih A env ρ m B' tB H' s' Q E S D' P'
  |true=>exact P'.now D'.inv rfl
theorem kW{m:Nat}(S:ES c A env nk n m):A.units+10<=9800:=by have:=S.units;exact alZ this
theorem tj.wR{Rel:CL->List CF->α->β->Prop}{o:Option α}{Q:β->CI->Prop}(P:tj c s B μ Rel (R.of o H) Q E):∃a,o=some a/\tj c s B μ Rel (.ok a H) Q E:=by
 cases o with
 |none=>exact P.elim
 |some a=>exact(ae a rfl P)
theorem aoM{o:yG}{a b:PE}{r:CJ}(ha:aO c n vis nk a l)(hb:ut c n vis nk b r):aO c n vis nk (.cmp a o b) (.Compare l [dJ o] [r] pos)/\ib c n vis nk (.cmp a o b) (.Compare l [dJ o] [r] pos):=by
 constructor
 ·intro A env ρ m B μ H s Q E S D P;replace P:=tj.to P E1.cmp;refine wpAny_Compare1 (ha A env ρ m B μ H s _ E S D (aX D P λx H' B' tB s' cx e D' vx hB tQ P'=>?_)) (rK hb.t _);refine hb.v A env ρ m B' tB H' s' _ E S D' (aX D' P' λy xR yE wT wx cy e' vC vy xD vA vO=>?_);obtain⟨v,hv,P3⟩:=vO.wR;(obtain⟨b,h1,zq2⟩:=Es.mp hv;clear hv;subst zq2);exact kN vC.inv vC.uD (vx.mono xD vA) vy h1 (kW S) λt=>P3.now vC.inv (.bool _)
 ·intro A env ρ m B μ H s Q E S D P;rw[E1.cmp] at P;rw[R.bind_assoc] at P;rw[MD];refine wpAny_bind (ha A env ρ m B μ H s _ E S D (aX D P λx H' B' tB s' cx e D' vx hB tQ P'=>?_));rw[MI _ _ _ (show lastMarks [dJ o] [r]=false from rK hb.t _)];rw[R.bind_assoc] at P';refine test_last (hb.v A env ρ m B' tB H' s' _ E S D' (aX D' P' λy xR yE wT wx cy e' vC vy xD vA vO=>?_))
  cases q:bj xR o x y with
  |none=>rw[q] at vO;exact vO.elim
  |some b=>rw[q] at vO;exact kN vC.inv vC.uD (vx.mono xD vA) vy q (kW S) λt=>EY (vO.now vC.inv rfl)
theorem aoN{o o':yG}{a b d:PE}{r t:CJ}(ha:aO c n vis nk a l)(hb:ut c n vis nk b r)(hd:ut c n vis nk d t):
  aO c n vis nk (.uK a o b o' d) (.Compare l [dJ o,dJ o'] [r,t] pos)/\ib c n vis nk (.uK a o b o' d) (.Compare l [dJ o,dJ o'] [r,t] pos):=by
 have hm:lastMarks [dJ o,dJ o'] [r,t]=false:=by show behindInMarks (dJ o') t=false;exact rK hd.t _
 constructor
 ·intro A env ρ m B μ H s Q E S D P;replace P:=tj.to P E1.uK;refine Compare_chain (rs:= []) (ha A env ρ m B μ H s _ E S D (aX D P λx H' B' tB s' cx e D' vx hB tQ P'=>?_)) hm;refine chain_link (hb.v A env ρ m B' tB H' s' _ E S D' (aX D' P' λy xR yE wT wx cy e' vC vy xD vA vO=>?_))
  cases q:bj xR o x y with
  |none=>rw[q] at vO;exact vO.elim
  |some b=>
   rw[q] at vO;refine kN vC.inv vC.uD (vx.mono xD vA) vy q (kW S) λtk=>EY ?_
   cases b with
   |false=>exact vO.now vC.inv (.bool _)
   |true=>refine chain_last ?_;refine hd.v A env ρ m yE wT xR {wx with toks:=tk} _ E S vC (aX (s:={wx with toks:=tk}) vC vO λz H3 B3 za s3 cz e3 D3 vz vZ uY P3=>?_);obtain⟨v,hv,P4⟩:=P3.wR;(obtain⟨b,h1,zq2⟩:=Es.mp hv;clear hv;subst zq2);exact kN D3.inv D3.uD (vy.mono vZ uY) vz h1 (kW S) λt=>P4.now D3.inv (.bool _)
 ·intro A env ρ m B μ H s Q E S D P;rw[E1.uK] at P;rw[R.bind_assoc] at P;rw[MD];refine wpAny_bind (ha A env ρ m B μ H s _ E S D (aX D P λx H' B' tB s' cx e D' vx hB tQ P'=>?_));rw[MI _ _ _ hm];rw[R.bind_assoc] at P';refine test_link (hb.v A env ρ m B' tB H' s' _ E S D' (aX D' P' λy xR yE wT wx cy e' vC vy xD vA vO=>?_))
  cases q:bj xR o x y with
  |none=>rw[q] at vO;exact vO.elim
  |some b=>
   rw[q] at vO;refine kN vC.inv vC.uD (vx.mono xD vA) vy q (kW S) λtk=>EY ?_
   cases b with
   |false=>exact vO.now vC.inv rfl
   |true=>
    refine test_last ?_;change tj _ _ _ _ _ (((ev c.Γ d m ρ xR).bind λz H=>(R.of ((bj H o' y z).map AV.bool) H:R AV)).bind _) _ _ at vO;rw[R.bind_assoc] at vO;refine hd.v A env ρ m yE wT xR {wx with toks:=tk} _ E S vC (aX (s:={wx with toks:=tk}) vC vO λz H3 B3 za s3 cz e3 D3 vz vZ uY P3=>?_)
    cases q:bj H3 o' y z with
    |none=>rw[q] at P3;exact P3.elim
    |some b=>rw[q] at P3;exact kN D3.inv D3.uD (vy.mono vZ uY) vz q (kW S) λt=>EY (P3.now D3.inv rfl)
theorem aoZ{es:List CJ}(h:pE c n vis nk ps es):aO c n vis nk (.list ps) (.List es pos):=λA env ρ m B μ H s Q E S D P=>by replace P:=tj.to P E1.list;refine wpAny_List (h A env ρ m B μ H s _ E pos S D (aX D P λvs H' B' tB s' tA e D' v' hB tQ P'=>?_));obtain⟨h1,h2⟩:=pP D'.inv v' P' s'.toks 0;exact⟨by rw[v'.length,fG];exact h1,h2⟩
theorem abU{Γ:Ctx}{m:Nat}{ρ:aB}:∀{ps:ui}{es:List CJ}{H H':AH}{vs:List AV},vg vis nk ps es->uj Γ ps m ρ H=.ok vs H'->vs.length=es.length
 | .nil,_,H,H',vs,ht,h=>by rw[show _=_ from ht];cases(E2.nil (Γ:=Γ) (m:=m) (ρ:=ρ) (H:=H)).symm.trans h;rfl
 | .cons e es,ts,H,H',vs,ht,h=>by obtain⟨he,ht,hs⟩:=ht;rw[he];obtain⟨v,H1,_,q⟩:=R.wj (E2.cons.symm.trans h);obtain⟨ws,H2,q2,q3⟩:=R.wj q;clear h q;cases q3;exact CN (·+1) (abU hs q2)
theorem ape{es:List CJ}(ht:vg vis nk ps es)(hl:es.length<=20)(h:pE c n vis nk ps es):aO c n vis nk (.tup ps) (.Tuple es k pos):=λA env ρ m B μ H s Q E S D P=>by replace P:=tj.to P E1.tup;refine wpAny_Tuple (h A env ρ m B μ H s _ E pos S D (aX D P λvs H' B' tB s' tA e D' v' hB tQ P'=>?_));have hlen:=abU ht e;refine⟨by rw[v'.length,fG];exact(hlen▸Nat.le_trans hl (by decide)),?_⟩;exact P'.push D'.inv (DG _ rfl) λyE as9 eq=>.tup _ _ _ eq (v'.mono as9 (Pre.refl _))
theorem agS{prog:Program}{w:CW}:({cls:=.type "dict",data:=.dict #[]}:Obj).IsDictOf (bytesKind prog w) []:=by
 obtain⟨o,ho,hd⟩:=IS.mp (Ni (knd:=bytesKind prog w) ({}:CL))
 have:=DG ({}:CL) (o:=({cls:=.type "dict",data:=.dict #[]}:Obj)) rfl
 rw[this] at ho;cases ho;exact hd
theorem aoT:aO c n vis nk .uR (.Dict [] [] pos):=λA env ρ m B μ H s Q E S D P=>by
 replace P:=tj.to P E1.uR;refine wpAny_Dict_empty ?_
 have:=P.new (h':=s.heap.push {cls:=.type "dict",data:=.dict #[]}) (t:=s.toks) D.inv (λb o e=>Dc _ e) (Nat.le_refl _) (DG _ rfl) (cY [] agS rfl (.nil) (by simp)) (λ⟨vs,q⟩=>by cases q)
 exact this
theorem aoG{a:PE}(ha:aO c n vis nk a l)(hs:mf l=true):aO c n vis nk (.attr a k) (.Attribute l (fU k) pos):=λA env ρ m B μ H s Q E S D P=>by
 replace P:=tj.to P E1.attr;refine Attribute_any_ (ha A env ρ m B μ H s _ E S D (aX D P λx H' B' tB s' cx e D' vx hB tQ P'=>?_)) ?_
 ·obtain⟨v,hv,P3⟩:=P'.wR;exact aoF D'.inv D'.uD vx hv λt cv h=>P3.now D'.inv h
 ·rw[arm_eval_Attribute,rJ hs]
theorem aoW{a i:PE}{r:CJ}(ha:aO c n vis nk a l)(hi:aO c n vis nk i r):aO c n vis nk (.idx a i) (.Subscript l r pos):=λA env ρ m B μ H s Q E S D P=>by replace P:=tj.to P E1.idx;refine Subscript_ (ha A env ρ m B μ H s _ E S D (aX D P λx H' B' tB s' cx e D' vx hB tQ P'=>?_));refine hi A env ρ m B' tB H' s' _ E S D' (aX D' P' λy xR yE wT wx cy e' vC vy xD vA vO=>?_);obtain⟨v,hv,P3⟩:=vO.wR;exact aeu (aoV vC.inv vC.uD (vx.mono xD vA) vy hv λt cv h=>P3.now vC.inv h)
inductive wc(c:tN)(n:Nat)(vis:aN)(nk:aP):ui->Option CJ->Prop
 |none:wc c n vis nk .nil none
 |some {p:PE} {e:CJ} (h:aO c n vis nk p e):wc c n vis nk (.cons p .nil) (some e)
theorem wc.part{p:ui}{o:Option CJ}(h:wc c n vis nk p o)(A:Around)(env:Env)(ρ:aB)(m:Nat)(B:CL)(μ:List CF)(H:AH)(s:CI)(Q:CE->CI->Prop)(E:CE->CI->Prop)(S:ES c A env nk n m)(D:u6 c env vis ρ B μ H s.heap)
  (P:tj c s B μ uF (uj c.Γ p m ρ H) Q E):CH (CG c.prog c.w) A (evalPart o env) Q E s:=by
 cases h with
 |none=>rw[evalPart_none];replace P:=tj.to P E2.nil;exact wpAny_pure (P.now D.inv .none)
 |some h=>rw[evalPart_some];replace P:=tj.to P E2.cons;refine h A env ρ m B μ H s _ E S D (aX D P λx H' B' tB s' cx e D' vx hB tQ P'=>?_);rw[E2.nil] at P';exact P'.now D'.inv (.some vx)
theorem uF.mono(h:uF B μ vs cv)(hB:B.StaysIn B')(tQ:Pre μ tB):uF B' tB vs cv:=by
 cases h with
 |none=>exact .none
 |some h=>exact .some (h.mono hB tQ)
theorem apa{a:PE}{lo hi st:ui}{x y z:Option CJ}{q:Pos}(ha:aO c n vis nk a l)(hl:wc c n vis nk lo x)(hh:wc c n vis nk hi y)(ht:wc c n vis nk st z):
  aO c n vis nk (.slice a lo hi st) (.Subscript l (.Slice x y z q) pos):=λA env ρ m B μ H s Q E S D P=>by
 replace P:=tj.to P E1.slice;refine Subscript_ (ha A env ρ m B μ H s _ E S D (aX D P λv H' B' tB s' cv e D' vv hB tQ P'=>?_));refine wpAny_Slice (hl.part A env ρ m B' tB H' s' _ E S D' (aX D' P' λv1 H1 B1 vj s1 c1 e1 D1 vl wV wo P1=>?_));refine hh.part A env ρ m B1 vj H1 s1 _ E S D1 (aX D1 P1 λv2 H2 B2 vN s2 c2 e2 D2 vu u5 uk P2=>?_);refine ht.part A env ρ m B2 vN H2 s2 _ E S D2 (aX D2 P2 λv3 H3 B3 za s3 c3 e3 D3 vs vZ uY P3=>?_)
 have I:=D3.inv.push {cls:=.type "slice",data:=.fields #[c1,c2,c3]}
 refine aeu (ao8 (s:={s3 with heap:=s3.heap.push {cls:=.type "slice",data:=.fields #[c1,c2,c3]}}) I (((vv.mono wV wo).mono u5 uk).mono vZ uY) ((vl.mono u5 uk).mono vZ uY) (vu.mono vZ uY) vs (Nj ..) ?_)
 exact tj.shift P3 (λZ Z e=>e) (Pre.refl _) _ _
end
def uZ(f:CE)(h:CL):Prop:=(∃id,f=.builtin id)\/(∃T,f=.type T)\/(∃a ob fd,f=.ref a/\h.get? a=some ob/\ob.data=.func fd)\/(∃K:Frag,K.In h/\keepIn K f=true)
theorem uZ.wq{f:CE}(h:CL)(x:uZ f h):∃k,(k=KR\/k=KS\/k=KP)/\Looks M h (keeperOf f) k:=by
 rcases x with⟨id,rfl⟩ |⟨T,rfl⟩ |⟨a,ob,fd,rfl,y,z⟩ |⟨K,x,y⟩
 ·exact(ae (.machine) (.inr (.inl rfl)) (Iq rfl))
 ·exact(ae (.machine) (.inr (.inl rfl)) (Iq rfl))
 ·obtain⟨cl,di,da,sl⟩:=ob;dsimp only at z;subst z;exact(ae (.frame) (.inl rfl) ((Js (part:=none) y).andThen .now))
 ·exact keeps_K y h x
def ia(c:tN)(n:Nat):Prop:=∀(A:Around)(k:Nat)(vs:List AV)(tA:List CE)(B:CL)(μ:List CF)(H:AH)(s:CI)(Q:CE->CI->Prop)(E:CE->CI->Prop),
 gA A c.U c.fs->A.depth+n<480->A.units+60*n<=8950->A.handled=none->Inv c.prog c.w B c.U μ H s.heap->ur c.prog c.w B->tK B μ vs tA->vs.length=3->k<=1->
 tj c s B μ VR (.ok (.inst k vs) H:R AV) Q E->CH (CG c.prog c.w) A (call (.ref (bO k)) tA) Q E s
section
variable {c:tN}{n:Nat}
theorem jI{es:List CJ}(h:ua c n vis nk ps es){f:CE}{first:List CE}{m:Nat}
  (S:ES c A env nk n m) (D:u6 c env vis ρ B μ H s.heap) (P:tj c s B μ tK (uj c.Γ ps m ρ H) (λvs tz=>uZ f tz.heap/\CH (CG c.prog c.w) A (call f (first++vs)) Q E tz) E):
  CH (CG c.prog c.w) A (callWith pos f first (backTo pos (starEach es env)) []) Q E s:=by
 have hp:=(kF (env:=env) (pos:=pos) h.len).1;refine HD (P:=uZ f) (by rw[hp];rfl) (λh x=>x.wq h) ?_
 cases h with
 |nil=>replace P:=tj.to P E2.nil;exact JQ (P.now D.inv .nil)
 |cons h hs=>rw[ku h.t];refine JR ?_;have:=(ua.cons h hs).sound A env ρ m B μ H s _ E pos S D P;rw[ku h.t] at this;exact this
theorem nz{m:Nat}(S:ES c A env nk n m)(h:c.Γ.hd=false):A.handled=none:=by
 rcases S.u3 with⟨_,h⟩ |⟨q,_⟩
 ·exact h
 ·rw[h] at q;cases q
theorem aoL{es:List CJ}(CO:eU c n)(hc:jj k=true)(hg:glob? nk (cW k)=true)(h:ua c n vis nk ps es):
  aO c n vis nk (.call k ps) (.Call (.Name (cW k) np) es [] pos):=λA env ρ m B μ H s Q E S D P=>by
 replace P:=tj.to P E1.call;simp only[jj,Bool.and_eq_true,C9] at hc;obtain⟨⟨zC,yT⟩,xT⟩:=hc;have xT:k≠30/\k≠31:=by simpa using xT
 obtain⟨⟨np',nv,bd⟩,hf⟩:=FR.mp zC;obtain⟨g,b,n1,n2,_,n4,_⟩:=(D.uD.ns);refine FA rfl (eg S D hg (ax g b n1 n2 (.inl (n4 k _ _ _ hf yT))) ?_);obtain⟨ob,fd,g1,g2⟩:=D.uD.fns k _ _ _ hf (CV (CT yT (by decide))) xT.1 xT.2;refine jI h S D (aX D P λvs H' B' tB s' tA e D' v' hB tQ P'=>?_);refine⟨.inr (.inr (.inl (bZ _ ob fd rfl (D'.inv.base _ _ (hB _ _ g1)) g2))),?_⟩;show CH _ _ (call _ tA) _ _ _;rcases S.u3 with⟨_,hh⟩ |⟨_,zB,_⟩
 ·exact CO A k vs tA B' tB H' s' Q E S.xO S.deep (by have:=S.units;exact mn this) hh D'.inv D'.uD v' (LH yT) xT.1 xT.2 P'
 ·rw[zB] at P';exact P'.elim
theorem ao6{es:List CJ}(NO:ia c n)(hk:k<=1)(hg:glob? nk (gF k)=true)(h:ua c n vis nk ps es):
  aO c n vis nk (.new k ps) (.Call (.Name (gF k) np) es [] pos):=λA env ρ m B μ H s Q E S D P=>by
 replace P:=tj.to P E1.new
 split at P
 ·exact P.elim
 ·rename_i vU
  refine o_eeaaaa D.uD.ns λg b n1 n2 Z Z=>r_a λn5 Z=>?_;refine FA rfl (eg S D hg (ax g b n1 n2 (.inl (n5 k hk))) ?_);obtain⟨K,hK,KF⟩:=(D.uD.kf);refine jI h S D (aX D P λvs H' B' tB s' tA e D' v' hB tQ P'=>?_);refine⟨.inr (.inr (.inr (ae K (hK.keeps λa o e=>D'.inv.base _ _ (hB _ _ e)) (KF.cls k hk)))),?_⟩;show CH _ _ (call _ tA) _ _ _
  split at P'
  ·rename_i hl
   exact NO A k vs tA B' tB H' s' Q E S.xO S.deep (by have:=S.units;exact mn this) (nz S (by simpa using vU)) D'.inv D'.uD v' hl hk P'
  ·exact P'.elim
theorem afJ(f:BI)(h:CL):uZ (lE f) h:=by cases f<;>first |exact .inl ⟨_,rfl⟩ |exact .inr (.inl ⟨_,rfl⟩)
theorem aoI{f:BI}{es:List CJ}(hf:f≠.isInt)(hg:glob? nk (dI f)=true)(h:ua c n vis nk ps es):
  aO c n vis nk (.bi f ps) (.Call (.Name (dI f) np) es [] pos):=λA env ρ m B μ H s Q E S D P=>by
 replace P:=tj.to P E1.bi
 split at P
 ·exact P.elim
 ·rename_i vU
  refine o_eeaaaa D.uD.ns λg b n1 n2 Z Z=>r_aaa λZ Z n7 Z=>?_;refine FA rfl (eg S D hg (ax g b n1 n2 (.inr (n7 f))) ?_);refine jI h S D (aX D P λvs H' B' tB s' tA e D' v' hB tQ P'=>⟨afJ f _,?_⟩);have:=adU (A:=A) (nz S (by simpa using vU)) D'.inv f v' P';clear hg P P';cases f<;>first |exact this |exact CP rfl hf
theorem aoY{a:PE}{tp:Pos}(hg:glob? nk "isinstance"=true)(wX:glob? nk "int"=true)(h:ut c n vis nk a l):
  aO c n vis nk (.bi .isInt (.cons a .nil)) (.Call (.Name "isinstance" np) [l,.Name "int" tp] [] pos):=λA env ρ m B μ H s Q E S D P=>by
 replace P:=tj.to P E1.bi
 split at P
 ·exact P.elim
 ·rename_i vU
  refine o_eeaaaa D.uD.ns λg b n1 n2 Z Z=>r_aaa λZ Z n7 Z=>?_
  refine FA (x:="isinstance") rfl (eg S D hg (ax g b n1 n2 (.inr (n7 .isInt))) ?_)
  have y4:starEach [l,.Name "int" tp] env=[(false,eval l env),(false,eval (.Name "int" tp) env)]:=by rw[ku h.t];rfl
  refine HD (P:=uZ (.builtin "isinstance")) (by rw[y4];rfl) (λh x=>x.wq h) ?_
  rw[y4];refine JR (IB ?_);rw[E2.cons] at P;rw[R.bind_assoc] at P;refine h.v A env ρ m B μ H s _ E S D (aX D P λv H' B' tB s' cv e D' v' hB tQ P'=>IB ?_);refine o_eeaaaa D'.uD.ns λg b n1 n2 Z Z=>r_aaa λZ Z n7 Z=>?_;refine eg S D' wX (ax g b n1 n2 (.inr (n7 .int))) ?_;refine spliced_nil ⟨.inl ⟨_,rfl⟩,?_⟩;rw[E2.nil] at P';exact adU (A:=A) (nz S (by simpa using vU)) D'.inv .isInt (.cons v' .nil) P'
end
section
variable {c:tN}{n:Nat}
theorem rA{o:CJ}{name:Str}{apos:Pos}{args:List CJ}(hs:vg vis nk ps args)(hn:fv o args.length apos pos=true)
  (h:CH M A (eval o env) (λov tz=>∀pl,CH M A (getMethod ov name pl) (λfx tM=>CH M A (callWith pos fx.1 fx.2 (backTo pos (starEach args env)) []) Q E tM) E tz) E s):
  CH M A (eval (.Call (.Attribute o name apos) args [] pos) env) Q E s:=by
 simp only[fv,Bool.and_eq_true,C9] at hn;obtain⟨⟨h1,h2⟩,h3⟩:=hn;obtain⟨p1,p2⟩:=kF (env:=env) (pos:=pos) hs;rw[arm_eval_Call,rJ h1];refine wpAny_bind (C7 h (λov tz tC=>wpAny_bind (DT ?_)) λZ Z e=>e);have yr:methodCallForm (args.length+([]:List Keyword).length) (backTo pos (starEach args env)) (backToKw pos (keywordEach [] env))=true:=by
  unfold methodCallForm;rw[p2];show(true&&true&&decide (args.length+0+0<30))=true
  simpa using h3
 have xW:methodCallPos true o env apos pos=pure pos:=by unfold methodCallPos;simp[h2]
 unfold methodCall;rw[yr];refine wpAny_bind (DB (C7 (tC _) (λfx tM t6=>wpAny_bind (Da xW t6)) λZ Z e=>e))
theorem ao1{f:MT}{o:PE}{es:List CJ}(hn:fv l es.length np pos=true)(ho:aO c n vis nk o l)(h:ua c n vis nk ps es):
  aO c n vis nk (.tT f o ps) (.Call (.Attribute l (ma f) np) es [] pos):=λA env ρ m B μ H s Q E S D P=>by
 replace P:=tj.to P E1.tT
 split at P
 ·exact P.elim
 ·rename_i vU
  refine rA h.len hn (ho A env ρ m B μ H s _ E S D (aX D P λx H' B' tB s' cx e D' vx hB tQ P'=>λpl=>?_))
  split at P'
  ·exact P'.elim
  ·rename_i uz
   refine aoU D'.inv D'.uD vx (by simpa using uz) ?_;refine jI h S D' (aX D' P' λvs xR yE wT wx tA e vC CB xD vA vO=>⟨.inl ⟨_,rfl⟩,?_⟩);exact ao0 vC.inv vC.uD (vx.mono xD vA) CB vO
theorem aiF(h:nR v=true):∃vs,v=.inst 1 vs:=by obtain⟨c,vs,rfl,h⟩:=(adz (C:=λb=>b=true) h).resolve_right nofun;exact⟨vs,by rw[eq_of_beq h]⟩
theorem ao2{o:PE}(CO:eU c n)(hn:fv l 0 np pos=true)(ho:aO c n vis nk o l):
  aO c n vis nk (.most o) (.Call (.Attribute l "most" np) [] [] pos):=λA env ρ m B μ H s Q E S D P=>by
 replace P:=tj.to P E1.most;refine rA (vis:=vis) (nk:=nk) (ps:=.nil) rfl hn (ho A env ρ m B μ H s _ E S D (aX D P λx H' B' tB s' cx e D' vx hB tQ P'=>λpl=>?_))
 split at P'
 ·rename_i atr
  clear e;obtain⟨vs,rfl⟩:=aiF atr;refine ao3 D'.inv D'.uD vx ?_;obtain⟨ob,fd,g1,g2⟩:=D'.uD.fns 40 _ _ _ rfl (by decide) (by decide) (by decide);refine HD (P:=uZ (.ref 144)) rfl (λh x=>x.wq h) (JQ ⟨.inr (.inr (.inl (bZ _ ob fd rfl (D'.inv.base _ _ g1) g2))),?_⟩);show CH _ _ (call (.ref (bK 40)) [cx]) _ _ _;rcases S.u3 with⟨_,hh⟩ |⟨_,zB,_⟩
  ·exact CO A 40 _ _ B' tB H' s' Q E S.xO S.deep (by have:=S.units;exact mn this) hh D'.inv D'.uD (.cons vx .nil) (by decide) (by decide) (by decide) P'
  ·rw[zB] at P';exact P'.elim
 ·exact P'.elim
end
theorem Inv.arO{w:CW}(I:Inv prog w B U μ H h){a:CF}{o:Obj}(hs:DF a h h')(e:h'.get? a=some o)(hB:B.get? a=none)(hM:a∉μ)
  (hU:∀b p,U' b p->(b≠a/\U b p)\/(b=a/\p=o)):Inv prog w B U' μ H h' where
 base:=λb p q=>hs b p (by rintro rfl;rw[hB] at q;cases q) (I.base b p q)
 us:=λb p hu=>by
  rcases hU b p hu with⟨uu,hu⟩ |⟨rfl,rfl⟩
  ·refine o_aaea (I.us b p hu) λg1 g2 sl g3 g4=>?_;exact(fu g1 g2 sl (hs b _ uu g3) g4)
  ·exact(fu hB hM p.slots e (λZ=>rfl))
 nodup:=I.nodup
 fresh:=I.fresh
 len:=I.len
 objs:=λi b p x y=>by obtain⟨ob,g1,g2,g3⟩:=I.objs i b p x y;exact(aI ob (hs b _ (by rintro rfl;exact hM (Eg.mpr ⟨i,x⟩)) g1) g2 g3)
theorem Inv.at_{w:CW}(I:Inv prog w B U μ H h){a:CF}{o:Obj}(hu:U a o)(hf:Ex o):h.get? a=some o:=by refine o_aaea (I.us a o hu) λZ Z sl e q=>?_;rw[e,q hf]
inductive wz(B:CL)(μ:List CF):AV->Nat->CL->CF->Prop
 |list (p:Nat) (a:CF) (j:Nat) (h:CL) (it:CF) (hp:μ[p]?=some a) (hi:h.IsListIter it a j):wz B μ (.ref p) j h it
 |tup (vs:List AV) (a:CF) (tA:List CE) (j:Nat) (h:CL) (it:CF) (hb:B.get? a=some {cls:=.type "tuple",data:=.seq tA.toArray}) (hv:tK B μ vs tA) (hi:h.IsTupleIter it a j):wz B μ (.tup vs) j h it
 |bytes (b:List UInt8) (t:Tok) (j:Nat) (h:CL) (it:CF) (hi:I7 h it b.toArray t j):wz B μ (.bytes b) j h it
 |uV (a b c:Int) (j:Nat) (h:CL) (it:CF) (hc:0<c) (hi:IsRangeIter h it (a+j*c) (Et a b c-j) c):wz B μ (.uV a b c) j h it
theorem wz.at_(x:wz B μ src j h it)(k:∀o,h.get? it=some o->h'.get? it=some o)(hB:B.StaysIn B')(tQ:Pre μ tB):wz B' tB src j h' it:=by
 cases x with
 |list p a _ _ _ hp hi=>exact .list p a _ _ _ (tQ _ _ hp) (o_ea hi λo e r=>(ae o (k o e) r))
 |tup vs a tA _ _ _ hb hv hi=>exact .tup vs a tA _ _ _ (hB _ _ hb) (hv.mono hB tQ) (o_ea hi λo e r=>(ae o (k o e) r))
 |bytes b t _ _ _ hi=>exact .bytes b t _ _ _ (o_ea hi λo e r=>(ae o (k o e) r))
 |uV a b c _ _ _ hc hi=>exact .uV a b c _ _ _ hc (k _ hi)
theorem wz.obj(x:wz B μ src j h it):∃o,h.get? it=some o/\d6 o:=by
 cases x with
 |list p a _ _ _ hp hi=>obtain⟨o,e,_,r⟩:=hi;exact(nI o e _ r)
 |tup vs a tA _ _ _ hb hv hi=>obtain⟨o,e,_,r⟩:=hi;exact(nI o e _ r)
 |bytes b t _ _ _ hi=>obtain⟨o,e,_,r⟩:=hi;exact(nI o e _ r)
 |uV a b c _ _ _ hc hi=>exact(nI _ hi _ rfl)
section
variable {c:tN}
theorem adN{a b cc:Int}(hc:0<cc)(j:Nat):(0<Et a b cc-j)↔a+j*cc<b:=by
 unfold Et;rw[CM (KA hc)]
 split
 ·rename_i ym
  have h1:(b-a-1)/cc+1-(j:Int)>0↔(j:Int)<=(b-a-1)/cc:=by exact⟨λh=>Int.le_of_lt_add_one (Int.lt_of_sub_pos h),λh=>IZ (Int.lt_add_one_of_le h)⟩
  rw[show(0<(b-a-1)/cc+1-(j:Int))↔(j:Int)<=(b-a-1)/cc from by exact(h1),Int.le_ediv_iff_mul_le hc];exact Int.le_sub_one_iff.trans ⟨Int.add_lt_of_lt_sub_left,Int.lt_sub_left_of_add_lt⟩
 ·rename_i ym
  have:0<=(j:Int)*cc:=Int.mul_nonneg adi (EQ hc);constructor<;>intro h<;>omega
@[elab_as_elim] theorem aiH{C:AV->Prop}{r:Option AV}(h:aS H src j=some r)(h1:∀p xs,az H p=some xs->C (.ref p))(h2:∀vs,C (.tup vs))(h3:∀b,C (.bytes b))(h4:∀a b c,C (.uV a b c)):C src:=by
 cases src with
 |ref p=>
  cases q:az H p with
  |none=>delta aS at h;dsimp only at h;rw[q] at h;cases h
  |some xs=>exact h1 p xs q
 |tup=>exact h2 _
 |bytes=>exact h3 _
 |uV=>exact h4 _ _ _
 |_=>cases h
theorem aci{p:Nat}{r:Option AV}(h:aS H (.ref p) j=some r):∃xs,az H p=some xs/\xs[j]?=r:=by
 cases q:az H p with
 |none=>delta aS at h;dsimp only at h;rw[q] at h;cases h
 |some xs=>delta aS at h;dsimp only at h;rw[q] at h;cases h;exact ae xs rfl rfl
theorem oM{yh:CE}(I:Inv c.prog c.w B c.U μ H s.heap)(v:VR B μ src yh){r:Option AV}(hi:aS H src j=some r)
  (hq:∀o:Obj,wz B μ src 0 (s.heap.push o) s.heap.objs.size->Q (.ref s.heap.objs.size) {s with heap:=s.heap.push o}):CH (CG c.prog c.w) A (pyIter yh) Q E s:=by
 revert v hq;refine aiH hi (λp xs hp v hq=>?_) (λvs v hq=>?_) (λb v hq=>?_) λa b cc v hq=>?_
 ·obtain⟨a,e,ha⟩:=v.r;subst e;obtain⟨tA,n,h1,_⟩:=I.list ha hp;exact M2 (cH h1) (hq _ (.list p a 0 _ _ ha (aI _ (DG _ rfl) rfl rfl)))
 ·obtain⟨a,tA,e,hb,hv⟩:=v.t;subst e;exact wpAny_pyIter_tuple (jz (I.base _ _ hb)) (hq _ (.tup vs a tA 0 _ _ hb hv (aI _ (DG _ rfl) rfl rfl)))
 ·obtain⟨t,e,hs⟩:=v.y;subst e;exact KN (hq _ (.bytes b t 0 _ _ (aI _ (DG _ rfl) rfl rfl)))
 ·refine o_eeeeaa v.g λr t u v e hr=>r_a λhs hc=>?_;subst e;refine wpAny_pyIter_range (I.base _ _ hr) hs (hq _ (.uV a b cc 0 _ _ hc ?_))
  have:(s.heap.push {cls:=.type "range_iterator",data:=.fields #[Dr a,Dr (Et a b cc),Dr cc]}).get? s.heap.objs.size=some {cls:=.type "range_iterator",data:=.fields #[Dr a,Dr (Et a b cc),Dr cc]}:=DG _ rfl
  show IsRangeIter _ _ _ _ _;rw[show a+((0:Nat):Int)*cc=a by simp,show Et a b cc-((0:Nat):Int)=Et a b cc by simp];exact this
theorem mx(hh:A.handled=none){Q:Option CE->CI->Prop}(I:Inv c.prog c.w B c.U μ H s.heap)(x:wz B μ src j s.heap it){r:Option AV}(hi:aS H src j=some r)
  (h1:∀v cv h' t',r=some v->VR B μ v cv->wz B μ src (j+1) h' it->DF it s.heap h'->Q (some cv) {s with heap:=h',toks:=t'})
  (h2:∀h',r=none->DF it s.heap h'->Q none {s with heap:=h'}):CH (CG c.prog c.w) A (pyNext (.ref it)) Q E s:=by
 cases x with
 |list p a _ _ _ hp hit=>
  obtain⟨xs,hx,hi⟩:=aci hi;subst hi;obtain⟨tA,n,g1,g2,_⟩:=I.list hp hx
  cases q:xs[j]? with
  |some v=>obtain⟨cv,g3,g4⟩:=g2.get q;exact M4 hit (cH g1) (by simpa using g3) λh' wN hs=>h1 v cv h' s.toks q g4 (.list p a _ _ _ hp wN) hs.extBut
  |none=>refine wpAny_pyNext_list_end hh hit (cH g1) ?_ λh' hs=>h2 h' q hs;have:=E0.mp q;rw[Hj,E0,g2.length];exact this
 |tup vs a tA _ _ _ hb hv hit=>
  cases hi
  cases q:vs[j]? with
  |some v=>obtain⟨cv,g3,g4⟩:=hv.get q;exact wpAny_pyNext_tuple_item hit (jz (I.base _ _ hb)) (by simpa using g3) λh' wN hs=>h1 v cv h' s.toks q g4 (.tup vs a tA _ _ _ hb hv wN) hs.extBut
  |none=>refine wpAny_pyNext_tuple_end hh hit (jz (I.base _ _ hb)) ?_ λh' hs=>h2 h' q hs;have:=E0.mp q;rw[Hj,E0,hv.length];exact this
 |bytes b t _ _ _ hit=>
  cases hi
  cases q:b[j]? with
  |some v=>exact KBw.next_item hit (c:=v) (by simpa using q) λh' wN hs=>h1 (.int v.toNat) _ h' _ (by rw[q];rfl) (.int _ _) (.bytes b t _ _ _ wN) hs.extBut
  |none=>exact KBw.next_end hh hit (by simpa using q) λh' hs=>h2 h' (by rw[q];rfl) hs
 |uV a b cc _ _ _ hc hit=>
  cases hi
  by_cases q:a+j*cc<b
  ·refine wpAny_pyNext_range_item hit ((adN hc j).mpr q) λh' wN hs=>h1 (.int (a+j*cc)) _ h' _ (by rw[CM q]) (.int _ _) (.uV a b cc _ _ _ hc ?_) hs.extBut;rw[show a+((j+1:Nat):Int)*cc=a+j*cc+cc by push_cast;rw[Int.add_mul];exact al1,show Et a b cc-((j+1:Nat):Int)=Et a b cc-j-1 by push_cast;exact al2];exact wN
  ·refine wpAny_pyNext_range_end hh hit ?_ λh' hs=>h2 h' (by rw[CQ q]) hs;have:¬(0<Et a b cc-(j:Int)):=λh=>q ((adN hc j).mp h);exact El.mp this
end
noncomputable def tD.put(U:tD)(a:CF)(o:Obj):tD:=λb p=>(b≠a/\U b p)\/(b=a/\p=o)
theorem tD.t7(U:tD)(a:CF)(o:Obj):U.put a o a o:=.inr ⟨rfl,rfl⟩
theorem tD.tU{a b:CF}{o p:Obj}(h:b≠a)(hu:U b p):U.put a o b p:=.inl ⟨h,hu⟩
theorem tD.uS{a:CF}{o p:Obj}(h:U.put a o a p):p=o:=h.elim (λq=>CP rfl q.1) (·.2)
def afa(U:tD)(a:CF):Prop:=∀p q,U a p->U a q->p=q
theorem Inv.wu{w:CW}(I:Inv prog w B U μ H h){a:CF}{o:Obj}(hs:DF a h h')(e:h'.get? a=some o)(hB:B.get? a=none)(hM:a∉μ):
  Inv prog w B (U.put a o) μ H h':=I.arO hs e hB hM λb p hu=>hu
theorem mG(h:bQ vis=true){i:Nat}{y:Str}(h1:(i,x)∈vis)(h2:(j,y)∈vis):(i=j↔x=y):=by
 simp only[bQ,Bool.and_eq_true,C9] at h;obtain⟨n1,n2⟩:=h
 induction vis with
 |nil=>cases h1
 |cons p r ih=>
  simp only[DY,Ge] at n1 n2;rcases CX.mp h1 with e1 |m1<;>rcases CX.mp h2 with e2 |m2
  ·rw[<-e1] at e2;clear ih h2;cases e2;simp
  ·clear h1 h2;subst e1;have a1:j∈r.map (·.1):=Dz.mpr (ae (j,y) m2 rfl);have a2:y∈r.map (·.2):=Dz.mpr (ae (j,y) m2 rfl);exact⟨λe=>CP (e▸a1) n1.1,λe=>CP (e▸a2) n2.1⟩
  ·clear h1 h2;subst e2;have a1:i∈r.map (·.1):=Dz.mpr (ae (i,x) m1 rfl);have a2:x∈r.map (·.2):=Dz.mpr (ae (i,x) m1 rfl);exact⟨λe=>CP (e▸a1) n1.1,λe=>CP (e▸a2) n2.1⟩
  ·exact ih m1 m2 n1.2 n2.2
structure Ah(oc:Bool)(env:Env)(U:tD):Prop where
 dict:∃o es ep,U env.locals o/\o.data=.dict es ep/\StrKeys es
 one:∀a,(a=env.locals\/(oc=true/\∃x,env.cells.lookup x=some a/\env.kindOf x=some .cell))->afa U a
 cell:oc=true->∀x a,env.cells.lookup x=some a->env.kindOf x=some .cell->∃o v,U a o/\o.data=.cell v
 apart:oc=true->∀x y a,env.cells.lookup x=some a->env.cells.lookup y=some a->x=y
 off:oc=true->∀x a,env.cells.lookup x=some a->a≠env.locals
section
variable {c:tN}{Q:Unit->CI->Prop}
theorem apW{i:Nat}(I:Inv c.prog c.w B U μ H s.heap)(N:wa env vis ρ B μ U)(O:Ah oc env U)(ok:bQ vis=true)(hk:env.scope.kind=.function)
  (hx:(i,x)∈vis) (hl:env.kindOf x=some .local) (hv:wh env x B μ v cv)
  (h:∀h' o' t',DF env.locals s.heap h'->(∀b p,b≠env.locals->U b p->U.put env.locals o' b p)->Inv c.prog c.w B (U.put env.locals o') μ H h'->wa env vis (ρ.set i v) B μ (U.put env.locals o')->Ah oc env (U.put env.locals o')->Q () {s with heap:=h',toks:=t'}):
  CH (CG c.prog c.w) A (storeName env x cv) Q E s:=by
 obtain⟨o,es,ep,BM,hd,hks⟩:=(O.dict);refine o_aaea (I.us _ _ BM) λnB nM sl eo Z=>?_;have hn:s.heap.Ns env.locals (nsFind es):=(ce _ es ep eo hd hks (λZ=>rfl));refine wpAny_storeName_local hl hn (λh' zK hs=>?_) (by rw[hk];rfl);obtain⟨o',Am,AS,Al,zE,zJ,hf'⟩:=zK;refine h h' o' _ hs.extBut (λb p hb hu=>tD.tU hb hu) (I.wu hs.extBut Al nB nM) ?_ ?_
 ·intro j y u hj hu zk
  by_cases zG:j=i
  ·subst zG;have Cl:x=y:=(mG ok hx hj).mp rfl;clear hj;subst Cl;have:u=v:=by
    by_cases x9:j<ρ.length
    ·rw[Fa x9] at hu;exact(C6 hu).symm
    ·rw[Dw (by simpa using x9)] at hu;cases hu
   clear h hu;subst this;exact(ae cv hv (.inl (rf hl o' (tD.t7 _ _ _) Am AS zE (bE zJ (by rw[hf'];simp)))))
  ·rw[DN (λe=>zG e.symm)] at hu;obtain⟨cu,g1,g2⟩:=N j y u hj hu zk;have uu:y≠x:=λe=>zG ((mG ok hj hx).mpr e);refine(ae cu g1 ?_);rcases g2 with⟨g3,oy,g4,Bv,ep2,g5,g6,g7⟩ |⟨g3,a,oy,g4,g5,g6,g7⟩
   ·have:oy=o:=O.one _ (.inl rfl) _ _ g4 BM;clear BM eo;subst this;rw[hd] at g5;clear g6;cases g5;refine .inl (rf g3 o' (tD.t7 _ _ _) Am AS zE (bE zJ ?_));rw[hf'];show(if y=x then some cv else nsFind es y)=some cu;rw[CQ uu];exact g7
   ·exact .inr (eH g3 a oy g4 (tD.tU g7 g5) g6 g7)
 ·refine⟨(bZ o' Am AS (tD.t7 _ _ _) zE zJ),?_,?_,O.apart,O.off⟩
  ·rintro a (rfl |⟨ho,y,hy,Ax⟩) p q hp hq
   ·rw[tD.uS hp,tD.uS hq]
   ·have uu:=O.off ho y a hy;exact O.one a (.inr (jv ho y hy Ax)) p q (hp.resolve_right λe=>uu e.1).2 (hq.resolve_right λe=>uu e.1).2
  ·intro ho y a hy Ax;obtain⟨oc,v',g1,g2⟩:=O.cell ho y a hy Ax;exact(bR oc v' (tD.tU (O.off ho y a hy) g1) g2)
theorem apU{i:Nat}{a:CF}(I:Inv c.prog c.w B U μ H s.heap)(N:wa env vis ρ B μ U)(O:Ah oc env U)(ok:bQ vis=true)(hk:env.scope.kind=.function)(ho:oc=true)
  (hx:(i,x)∈vis) (hl:env.kindOf x=some .cell) (ha:env.cells.lookup x=some a) (hv:wh env x B μ v cv)
  (h:∀h' o',DF a s.heap h'->(∃p,U a p)->(∀b p,b≠a->U b p->U.put a o' b p)->Inv c.prog c.w B (U.put a o') μ H h'->wa env vis (ρ.set i v) B μ (U.put a o')->Ah oc env (U.put a o')->Q () {s with heap:=h'}):
  CH (CG c.prog c.w) A (storeName env x cv) Q E s:=by
 obtain⟨o,v₀,hu,hd⟩:=O.cell ho x a ha hl;refine o_aaea (I.us _ _ hu) λnB nM sl eo Z=>?_;refine wpAny_storeName_cell hk hl ha (v₀:=v₀) (ae _ eo hd) λh' hc hs=>?_;obtain⟨o',Al,zE⟩:=hc;refine h h' o' hs.extBut ⟨_,hu⟩ (λb p hb hu=>tD.tU hb hu) (I.wu hs.extBut Al nB nM) ?_ ?_
 ·intro j y u hj hu zk
  by_cases zG:j=i
  ·subst zG;have Cl:x=y:=(mG ok hx hj).mp rfl;clear hj;subst Cl;have:u=v:=by
    by_cases x9:j<ρ.length
    ·rw[Fa x9] at hu;exact(C6 hu).symm
    ·rw[Dw (by simpa using x9)] at hu;cases hu
   clear h hu;subst this;exact(ae cv hv (.inr (eH (.inl hl) a o' ha (tD.t7 _ _ _) zE (O.off ho x a ha))))
  ·rw[DN (λe=>zG e.symm)] at hu;obtain⟨cu,g1,g2⟩:=N j y u hj hu zk;have uu:y≠x:=λe=>zG ((mG ok hj hx).mpr e);refine(ae cu g1 ?_);rcases g2 with⟨g3,oy,g4,g5⟩ |⟨g3,b,oy,g4,g5,g6,g7⟩
   ·exact .inl (jv g3 oy (tD.tU (O.off ho x a ha).symm g4) g5)
   ·exact .inr (eH g3 b oy g4 (tD.tU (λe=>uu (O.apart ho y x b g4 (e▸ha))) g5) g6 g7)
 ·obtain⟨oL,es,ep,hL,zz,hLk⟩:=(O.dict);refine⟨(bZ oL es ep (tD.tU (O.off ho x a ha).symm hL) zz hLk),?_,?_,O.apart,O.off⟩
  ·rintro b hb p q hp hq
   by_cases zV:b=a
   ·clear ha h hu nB nM eo hs Al;subst zV;rw[tD.uS hp,tD.uS hq]
   ·exact O.one b hb p q (hp.resolve_right λe=>zV e.1).2 (hq.resolve_right λe=>zV e.1).2
  ·intro ho y b hy Ax
   by_cases zV:b=a
   ·clear ha h hu nB nM eo hs Al;subst zV;exact(bR o' _ (tD.t7 _ _ _) zE)
   ·obtain⟨oc,v',g1,g2⟩:=O.cell ho y b hy Ax;exact(bR oc v' (tD.tU zV g1) g2)
end
def i7(oc:Bool)(env:Env)(x:Str):Prop:=env.kindOf x=some .local\/(oc=true/\env.kindOf x=some .cell/\∃a,env.cells.lookup x=some a)
structure FS(oc:Bool)(prog:Program)(w:CW)(U0:tD)(env:Env)(vis:aN)(ρ:aB)(B:CL)(μ:List CF)(H:AH)(U:tD)(h:CL):Prop where
 inv:Inv prog w B U μ H h
 nm:wa env vis ρ B μ U
 own:Ah oc env U
 keep:∀b p,U0 b p->U b p
structure Off(oc:Bool)(U0:tD)(env:Env):Prop where
 loc:∀p,¬U0 env.locals p
 cell:oc=true->∀x a p,env.cells.lookup x=some a->env.kindOf x=some .cell->¬U0 a p
theorem FS.step{w:CW}(F:FS oc prog w U0 env vis ρ B μ H U h)(hB:B.StaysIn B')(tQ:Pre μ tB)(I:Inv prog w B' U tB H' h'):
  FS oc prog w U0 env vis ρ B' tB H' U h':=⟨I,F.nm.mono hB tQ,F.own,F.keep⟩
section
variable {c:tN}
theorem jL{i:Nat}{Q:Unit->CI->Prop}(F:FS oc c.prog c.w U0 env vis ρ B μ H U s.heap)(of:Off oc U0 env)(ok:bQ vis=true)(hk:env.scope.kind=.function)
  (hx:(i,x)∈vis) (hs:i7 oc env x) (hv:wh env x B μ v cv)
  (h:∀h' U' t',FS oc c.prog c.w U0 env vis (ρ.set i v) B μ H U' h'->(∃a p o,U a p/\DF a s.heap h'/\U'=U.put a o)->Q () {s with heap:=h',toks:=t'}):CH (CG c.prog c.w) A (storeName env x cv) Q E s:=by
 rcases hs with hl |⟨ho,hl,a,ha⟩
 ·refine apW F.inv F.nm F.own ok hk hx hl hv λh' o' t' g0 g1 g2 g3 g4=>h h' _ t' ⟨g2,g3,g4,λb p hu=>g1 b p (λe=>of.loc p (e▸hu)) (F.keep b p hu)⟩ ?_;obtain⟨o,_,_,hu,_⟩:=F.own.dict;exact(bZ _ o o' hu g0 rfl)
 ·exact apU F.inv F.nm F.own ok hk ho hx hl ha hv λh' o' g0 ⟨p0,g5⟩ g1 g2 g3 g4=>h h' _ s.toks ⟨g2,g3,g4,λb p hu=>g1 b p (λe=>of.cell ho x a p ha hl (e▸hu)) (F.keep b p hu)⟩ (bZ a p0 o' g5 g0 rfl)
theorem VR.xv(h:VR B μ v cv):wh env x B μ v cv:=by cases v<;>first |exact h |cases h
theorem acT:∀{t:List Nat}{vs:List AV}{tA:List CE}{elts:List CJ}{xs:List Str}{ρ:aB}{U:tD}{s:CI}{Q:Unit->CI->Prop},elts.mapM dP=some xs->t.length=xs.length->dA t vs ρ=some ρ'->tK B μ vs tA->
  FS oc c.prog c.w U0 env vis ρ B μ H U s.heap->Off oc U0 env->bQ vis=true->env.scope.kind=.function->(∀i x,(i,x)∈t.zip xs->(i,x)∈vis/\i7 oc env x)->
  (∀h' U' t',FS oc c.prog c.w U0 env vis ρ' B μ H U' h'->Q () {s with heap:=h',toks:=t'})->CH (CG c.prog c.w) A (assignInOrder ((assignEach elts env).map (·.2)) tA) Q E s
 |[],vs,tA,elts,xs,ρ,U,s,Q,he,hl,hs,hv,F,of,ok,hk,hz,h=>by
  have:xs=[]:=GC.mp hl.symm;clear hl hz;subst this;have:elts=[]:=by
   cases elts with
   |nil=>rfl
   |cons e r=>obtain⟨_,_,_,_,_,q⟩:=nY he;cases q
  clear he;subst this
  cases vs with
  |nil=>cases hs;cases hv;exact wpAny_pure (h _ _ _ F)
  |cons v vs=>cases hs
 |i::t,vs,tA,elts,xs,ρ,U,s,Q,he,hl,hs,hv,F,of,ok,hk,hz,h=>by
  cases vs with
  |nil=>cases hs
  |cons v vs=>
   obtain⟨cv1,tA,e,zm,yK⟩:=(hv.c);clear hv;subst e
   cases xs with
   |nil=>cases hl
   |cons x xs=>
    cases elts with
    |nil=>cases he
    |cons e r=>obtain⟨y,pos,ys,rfl,q2,q3⟩:=nY he;clear he;cases q3;obtain⟨h1,h2⟩:=hz i x (by simp);show CH _ _ (assignInOrder (assign (.Name x pos) env::(assignEach r env).map (·.2)) _) _ _ _;refine MS (JU (jL F of ok hk h1 h2 zm.xv λh' U' t' F' Z=>?_));exact acT (t:=t) (vs:=vs) (s:={s with heap:=h',toks:=t'}) q2 (by simpa using hl) hs yK F' of ok hk (λj y hm=>hz j y (by simp[hm])) h
theorem agT(hh:A.handled=none)(xS:∀j,aS H src j=some vs[j]?):∀(k j:Nat)(s:CI)(Q:List CE->CI->Prop),j+k<=vs.length->Inv c.prog c.w B U μ H s.heap->wz B μ src j s.heap it->B.get? it=none->it∉μ->(∀o,¬U it o)->
  (∀tA h' t',tK B μ ((vs.drop j).take k) tA->Inv c.prog c.w B U μ H h'->wz B μ src (j+k) h' it->DF it s.heap h'->Q tA {s with heap:=h',toks:=t'})->CH (CG c.prog c.w) A (draw (.ref it) k) Q E s:=by
 intro zi
 induction zi with
 |zero=>
 exact @λj s Q hl I x n1 n2 n3 h=>by exact wpAny_pure (h [] _ _ (by rw[Em];exact .nil) I x λZ Z Z e=>e)
 |succ k ih=>
 exact @λj s Q hl I x n1 n2 n3 h=>by
  have hj:j<vs.length:=by exact Nat.lt_of_add_right_lt hl
  refine wpAny_bind (mx (c:={c with U:=U}) hh I x (xS j) (λv cv h' t' e hv x' hs=>?_) λh' e hs=>?_)
  ·have I':=I.but hs n1 n2 n3;refine wpAny_bind (DB (ih (j+1) {s with heap:=h',toks:=t'} _ (al3 hl) I' x' n1 n2 n3 λtA h2 t2 zN I2 x2 zh=>wpAny_pure ?_));rw[List.getElem?_eq_getElem hj] at e;cases e;refine h _ h2 t2 ?_ I2 (by rw[show j+(k+1)=j+1+k by exact al4];exact x2) (λb o hb e=>zh b o hb (hs b o hb e));rw[KV hj,Hl];exact .cons hv zN
  ·rw[List.getElem?_eq_getElem hj] at e;cases e
@[elab_as_elim] theorem acj{C:AV->Prop}(h:jA H v=some vs)(h1:C (.tup vs))(h2:∀p,az H p=some vs->C (.ref p)):C v:=by
 cases v with
 |tup xs=>cases h;exact h1
 |ref p=>exact h2 p h
 |_=>cases h
theorem aeI(hh:A.handled=none){n:Nat}{Q:List CE->CI->Prop}(I:Inv c.prog c.w B U μ H s.heap)(hv:VR B μ v cv)(hi:jA H v=some vs)(hn:vs.length=n)
  (h:∀tA h' t',tK B μ vs tA->Inv c.prog c.w B U μ H h'->Q tA {s with heap:=h',toks:=t'}):CH (CG c.prog c.w) A (unpackItems cv n none) Q E s:=by
 have xS:∀j,aS H v j=some vs[j]? :=by intro j;refine acj (C:=λv=>aS H v j=_) hi rfl λp hi=>?_;delta aS;dsimp only;rw[hi]
 have hni:CH (CG c.prog c.w) A (notIterableAtAll cv) (λb s'=>b=false/\s'=s) E s:=by
  unfold notIterableAtAll;clear xS;revert hv;refine acj hi (λhv=>?_) λp hi hv=>?_
  ·obtain⟨a,tA,e,hb,hv⟩:=hv.t;subst e;refine wpAny_bind (DS (jz (I.base _ _ hb)).typeIs F.slot_tuple_iter.lookup ?_);exact wpAny_pure ⟨rfl,rfl⟩
  ·obtain⟨a,e,ha⟩:=hv.r;subst e;obtain⟨tA,n,h1,_⟩:=I.list ha hi;refine wpAny_bind (DS (cH h1).typeIs slot_list_iter.lookup ?_);exact wpAny_pure ⟨rfl,rfl⟩
 unfold unpackItems;refine wpAny_bind (C7 hni (λb s' hb=>?_) λZ Z e=>e);clear hni;obtain⟨rfl,rfl⟩:=hb;simp -iota only[Fn,Fj];refine wpAny_bind (DB (oM (c:={c with U:=U}) I hv (xS 0) λo x=>?_));have n1:=I.xq;have n2:=I.nextM;have n3:=I.wF;have I1:=I.push o;refine wpAny_bind (DB (agT (c:=c) (U:=U) (s:={s' with heap:=s'.heap.push o}) hh xS n 0 _ (al5 hn) I1 x n1 n2 n3 λtA h' t' yK I2 x2 zh=>?_));have asS:tK B μ vs tA:=by rw[Ic,EH (C5 hn)] at yK;exact yK
 have v4:tA.length=n:=by rw[asS.length,hn]
 rw[CQ (ot v4)];refine wpAny_bind (DB (mx (c:={c with U:=U}) (s:={s' with heap:=h',toks:=t'}) hh I2 x2 (xS (0+n)) (λv cv h3 t3 e=>?_) λh3 e hs3=>?_))
 ·rw[Dw (Nat.le_trans (C5 hn) (EU ..))] at e;cases e
 ·simp -iota only[Option.isSome_none,Fn,Fj];exact wpAny_pure (h tA h3 t' asS (I2.but hs3 n1 n2 n3))
theorem uG(one:Bool)(hh:one=true\/A.handled=none){t:List Nat}{Q:Unit->CI->Prop}(he:cZ one tg=some xs)(hl:t.length=xs.length)(hb:bz H t one v ρ=some ρ')(hv:VR B μ v cv)
  (F:FS oc c.prog c.w U0 env vis ρ B μ H U s.heap) (of:Off oc U0 env) (ok:bQ vis=true) (hk:env.scope.kind=.function) (hz:∀i x,(i,x)∈t.zip xs->(i,x)∈vis/\i7 oc env x)
  (h:∀h' U' t',FS oc c.prog c.w U0 env vis ρ' B μ H U' h'->Q () {s with heap:=h',toks:=t'}):CH (CG c.prog c.w) A (assign tg env cv) Q E s:=by
 cases one with
 |true=>
  (obtain⟨x,p,zq2,zq3⟩:=ajM he;subst zq2;clear he;subst zq3)
  match t,hl with
  |[i],_=>unfold bz at hb;cases hb;obtain⟨h1,h2⟩:=hz i _ (G9 _);exact JU (jL F of ok hk h1 h2 hv.xv λh' U' t' F' Z=>h h' U' t' F')
 |false=>
  have hh':A.handled=none:=hh.resolve_left (by decide);obtain⟨es,k,pos,rfl,he⟩:=rD he
  ·unfold bz at hb;obtain⟨vs,h1,h2⟩:=FQ.mp hb;have hlen:vs.length=t.length:=by
    clear h1 hb;have key:∀(t:List Nat)(vs:List AV)(ρ:aB),dA t vs ρ=some ρ'->vs.length=t.length:=by
     intro t
     induction t with
     |nil=>intro vs ρ h;cases vs with
      |nil=>rfl
      |cons _ _=>cases h
     |cons i t ih=>intro vs ρ h;cases vs with
      |nil=>cases h
      |cons v vs=>exact CN (·+1) (ih vs _ h)
    exact key t vs ρ h2
   have hel:(assignEach es env).length=es.length/\(assignEach es env).findIdx? (·.1)=none/\es.length=xs.length:=by
    clear hl hz hb h1 h2 hlen;have key:∀(es:List CJ)(xs:List Str),es.mapM dP=some xs->(assignEach es env).length=es.length/\(assignEach es env).findIdx? (·.1)=none/\es.length=xs.length:=by
     intro es
     induction es with
     |nil=>intro xs he;cases he;exact⟨rfl,rfl,rfl⟩
     |cons e r ih=>intro xs he;(obtain⟨y,p,ys,zq3,q2,zq5⟩:=nY he;subst zq3;clear he;subst zq5);obtain⟨g1,g2,g3⟩:=ih ys q2;refine⟨CN (·+1) g1,?_,CN (·+1) g3⟩;show List.findIdx? _ ((false,_)::assignEach r env)=none;rw[List.findIdx?_cons];simp[g2]
    exact key es xs he
   rw[Nm];refine wpAny_bind (DT ?_);unfold unpack;rw[hel.1,hel.2.1];refine wpAny_bind (DB (aeI (c:=c) (U:=U) hh' F.inv hv h1 (by omega) λtA h' t' yK I'=>?_));exact acT (s:={s with heap:=h',toks:=t'}) he hl h2 yK ⟨I',F.nm,F.own,F.keep⟩ of ok hk hz h
end
theorem jJ(h:gY nk sc=true){k:NameKind}(hm:(x,k)∈sc.names):
  k≠.cell/\(k=.local->sc.names.lookup x=some .local)/\(k=.free->sc.names.lookup x=some .free/\(nk.lookup x=some .cell\/nk.lookup x=some .free)):=by
 have:=C1.mp h _ hm;simp only[Bool.and_eq_true,EF,Fh,Df,ne_eq] at this;obtain⟨⟨h1,h2⟩,h3⟩:=this;exact⟨h1,λe=>h2.resolve_left (λq=>q e),λe=>h3.resolve_left (λq=>q e)⟩
theorem oh{k:NameKind}:∀{l:List (Str×NameKind)},l.lookup x=some k->(x,k)∈l:=by
 intro zi
 induction zi with
 |nil=>
 exact @λh=>by cases h
 |cons zp r ih=>
 obtain⟨y,j⟩:=zp;exact @λh=>by
  rw[EG] at h
  cases q:x==y with
  |true=>rw[q] at h;cases h;rw[Df.mp q];exact Dy
  |false=>rw[q] at h;exact Dt _ (ih h)
theorem abb(hf:gY nk sc=true)(hc:∀x,nk.lookup x=some .cell\/nk.lookup x=some .free->∃a,env.cells.lookup x=some a/\(env.kindOf x=some .cell\/env.kindOf x=some .free)):
  ∃cl,closureFor sc env=pure cl/\∀x,sc.names.lookup x=some .free->cl.lookup x=env.cells.lookup x:=by
 have key:∀(l:List (Str×NameKind))(acc:List (Str×CF)),(∀p∈l,p.2=.free->∃a,env.cells.lookup p.1=some a)->(∀x a,acc.lookup x=some a->env.cells.lookup x=some a)->
   ∃cl,(forIn l acc (λ(x:Str×NameKind)(r:List (Str×CF))=>(match x with |(name,kind)=>if(kind==Ir)=true then do let c<-cellOf env name;pure (Fo ((name,c)::r)) else pure (Fo r):Sem (ForInStep (List (Str×CF))))))=pure cl/\
    (∀x a,cl.lookup x=some a->env.cells.lookup x=some a)/\(∀x,(∃a,acc.lookup x=some a)->∃a,cl.lookup x=some a)/\∀p∈l,p.2=.free->∃a,cl.lookup p.1=some a:=by
  intro l
  induction l with
  |nil=>intro acc _ h2;exact(cY acc rfl h2 (λZ h=>h) (λp hp=>by cases hp))
  |cons p l ih=>
   intro acc h1 h2;obtain⟨name,kind⟩:=p
   by_cases hk:kind=.free
   ·subst hk;obtain⟨a,ha⟩:=h1 (name,.free) Dy rfl;refine o_eaaa (ih ((name,a)::acc) (λp hp=>h1 p (Dt _ hp)) (λx b hb=>by
     rw[EG] at hb
     cases q:x==name with
     |true=>rw[q] at hb;cases hb;rw[Df.mp q];exact ha
     |false=>rw[q] at hb;exact h2 x b hb)) λcl g1 g2 g3 g4=>?_
    refine(cY cl ?_ g2 (λx hx=>g3 x ?_) (λp hp zY=>?_))
    ·rw[Hh];show(do let r<-(do let c<-cellOf env name;pure (Fo ((name,c)::acc)));_)=_
     have:cellOf env name=pure a:=by unfold cellOf;rw[ha]
     rw[this];exact g1
    ·rw[EG]
     cases q:x==name with
     |true=>exact⟨a,rfl⟩
     |false=>exact hx
    ·rcases CX.mp hp with rfl |hp
     ·exact g3 name ⟨a,by rw[EG];simp⟩
     ·exact g4 p hp zY
   ·refine o_eaaa (ih acc (λp hp=>h1 p (Dt _ hp)) h2) λcl g1 g2 g3 g4=>?_;refine(cY cl ?_ g2 g3 (λp hp zY=>?_))
    ·rw[Hh];have:(kind==Ir)=false:=by simpa using hk
     dsimp only;rw[this];exact g1
    ·rcases CX.mp hp with rfl |hp
     ·exact CP zY hk
     ·exact g4 p hp zY
 refine o_eaaa (key sc.names [] (λp hp zY=>by obtain⟨x,k⟩:=p;obtain⟨_,_,h3⟩:=jJ hf hp;obtain⟨a,ha,_⟩:=hc x (h3 zY).2;exact⟨a,ha⟩) (λx a h=>by cases h)) λcl g1 g2 g3 g4=>?_
 refine(ae cl ?_ (λx hx=>?_))
 ·unfold closureFor;exact(CN (λX:Sem (List (Str×CF))=>X>>=λcs=>pure cs) g1).trans rfl
 ·obtain⟨a,ha⟩:=g4 (x,.free) (oh hx) rfl;rw[ha,g2 x a ha]
theorem nX{env:Env}{x:Str}:∀{names:List (Str×NameKind)}{k:NameKind},names.lookup x=some k->
  (names.map λ(n,k)=>if(k==Ir&&env.scope.kind==.function&&env.kindOf n==some .cell) then(n,GH) else(n,k)).lookup x=some (if(k==Ir&&env.scope.kind==.function&&env.kindOf x==some .cell) then .cell else k)
 |[],_,h=>by simp at h
 |(n,j)::r,k,h=>by
  have ih:=@nX env x r k;rw[EG] at h;rw[DY]
  cases hx:x==n with
  |true=>
   rw[hx] at h;clear ih;cases h;have e:=Df.mp hx;clear hx;subst e;dsimp only
   split<;>simp[EG]
  |false=>
   rw[hx] at h;dsimp only
   split<;>(rw[EG,hx];exact ih h)
noncomputable def clear(t:List Nat)(ρ:aB):aB:=t.foldl (λr i=>r.set i .undef) ρ
theorem aa8:∀{t:List Nat}{ρ:aB}{i:Nat}{v:AV},(clear t ρ)[i]?=some v->v≠.undef->ρ[i]?=some v/\i∉t:=by
 intro zi
 induction zi with
 |nil=>
 exact @λρ i v h Z=>⟨h,by simp⟩
 |cons j t ih=>
 exact @λρ i v h hv=>by
  obtain⟨h1,h2⟩:=ih (ρ:=ρ.set j .undef) h hv
  by_cases hj:j=i
  ·clear h2;subst hj
   by_cases hl:j<ρ.length
   ·rw[Fa hl] at h1;clear h;cases h1;exact CP rfl hv
   ·rw[Dw (by simpa using hl)] at h1;cases h1
  ·rw[DN hj] at h1;exact⟨h1,by simp[h2,Du hj]⟩
theorem lJ{t:List Nat}{i:Nat}(h:i∉t):clear t (ρ.set i v)=(clear t ρ).set i v:=by
 induction t generalizing ρ with
 |nil=>rfl
 |cons j t ih=>simp only[CX,Fx] at h;show clear t ((ρ.set i v).set j .undef)=(clear t (ρ.set j .undef)).set i v;rw[Ln _ _ (h.1),ih h.2]
theorem sy:∀{t:List Nat}{vs:List AV}{ρ:aB},t.Nodup->dA t vs (clear t ρ)=dA t vs ρ
 |[],vs,ρ,_=>rfl
 |i::t,[],ρ,_=>rfl
 |i::t,v::vs,ρ,hn=>by obtain⟨h1,h2⟩:=Ge.mp hn;show dA t vs ((clear t (ρ.set i .undef)).set i v)=dA t vs (ρ.set i v);rw[lJ h1,Ip,<-lJ h1];exact sy h2
theorem qz:∀{t:List Nat}{vs:List AV}{ρ ρ':aB},t.Nodup->dA t vs ρ=some ρ'->clear t ρ'=clear t ρ
 |[],[],ρ,ρ',_,h=>by cases h;rfl
 |[],_::_,ρ,ρ',_,h=>by cases h
 |i::t,[],ρ,ρ',_,h=>by cases h
 |i::t,v::vs,ρ,ρ',hn,h=>by obtain⟨h1,h2⟩:=Ge.mp hn;have:=qz h2 (show dA t vs (ρ.set i v)=some ρ' from h);show clear t (ρ'.set i .undef)=clear t (ρ.set i .undef);rw[lJ h1,lJ h1,this,lJ h1,Ip]
theorem afN{t:List Nat}(hn:t.Nodup):bz H t one v (clear t ρ)=bz H t one v ρ:=by
 cases one with
 |true=>exact sy hn
 |false=>
  unfold bz;dsimp only
  cases jA H v with
  |none=>rfl
  |some vs=>exact sy hn
theorem aa7{t:List Nat}(hn:t.Nodup)(h:bz H t one v ρ=some ρ'):clear t ρ'=clear t ρ:=by
 cases one with
 |true=>exact qz hn h
 |false=>unfold bz at h;obtain⟨vs,_,h⟩:=FQ.mp h;exact qz hn h
section
variable {w:CW}{R:Result->CI->Prop}
theorem agx{elt iter:CJ}{ifs:List CJ}{scope:Scope}{it acc:CE}(I:Nat->CI->Prop)
  (turn:∀n s (N K3 K4:CI->Prop),(∀m s,m<n->I m s->N s)->
   (∀ul,CH (CG prog w) A (eval elt env) (λx y7=>CH (CG prog w) A (call (.builtin "list.append") [acc,x]) (λZ as0=>N as0) (λZ Z=>False) y7) (λZ Z=>False) ul->K4 ul)->
   (∀tM,CH (CG prog w) A (forIn ifs true λc r=>if r=true then do let ok<-isTrue c env (eval c env);pure (Fo ok) else pure (Fo r)) (λok ul=>if ok=true then K4 ul else N ul) (λZ Z=>False) tM->K3 tM)->I n s->
   CH (CG prog w) A (pyNext it) (λr tz=>match r with
   |none=>R (.ok .next) tz
   |some v=>CH (CG prog w) A (FV target it v) (λZ u4=>CH (CG prog w) A (assign target env v) (λZ tM=>K3 tM) (λZ Z=>False) u4) (λZ Z=>False) tz) (λZ Z=>False) s)
  (n:Nat) (h:I n s):
  codeAny (CG prog w) A (.compLoop (.ListComp elt [⟨target,iter,ifs,0⟩] scope pos) 0 it acc env) R s:=by
 refine codeAny_loop rfl I (λn s hI=>?_) n h;show CH _ A ((compTurn (.ListComp elt [⟨target,iter,ifs,0⟩] scope pos) 0 it acc env).onRaise (λx=>do noteFrame x env;theTreesLotGoes x)) _ _ s
 refine JZ ?_;rw[compTurn_list];refine wpAny_bind (DT (wpAny_bind (C7 (turn n s (λs=>∃m,m<n/\I m s) _ _ (λm Z a b=>⟨m,a,b⟩) (λZ h=>h) (λZ h=>h) hI) (λr tz tC=>?_) λZ Z h'=>h'.elim)))
 cases r with
 |none=>exact wpAny_pure tC
 |some v=>
  refine wpAny_bind (C7 tC (λZ u4 xk=>?_) λZ Z h'=>h'.elim);refine wpAny_bind (C7 xk (λZ tM t6=>wpAny_bind (C7 t6 (λok ul vP=>?_) λZ Z h'=>h'.elim)) λZ Z h'=>h'.elim)
  cases ok with
  |false=>exact wpAny_pure ⟨rfl,vP⟩
  |true=>exact wpAny_bind (wpAny_bind (C7 vP (λx y7 atz=>wpAny_bind (C7 atz (λZ as0 atA=>wpAny_pure (wpAny_pure ⟨rfl,atA⟩)) λZ Z h'=>h'.elim)) λZ Z h'=>h'.elim))
theorem rq{v:CE}{Q:Unit->CI->Prop}(x:wz B μ src j s.heap it)(h:Q () s):CH (CG prog w) A (FV tg (.ref it) v) Q E s:=by
 have key:∀a:CF,CH (CG prog w) A (do
   let o<-load it
   match o.cls,o.data with
   | .type n,.fields vs=>
    if(["enumerate","zip","dict_itemiterator","dict_reverseitemiterator","odict_iterator","itertools.zip_longest","itertools.pairwise"].contains n&&vs[0]?==some (Dr a))=true then do
     rule "for.unpacks-the-owned-tuple"
     updateField it 0 .none
    else pure ()
   |_,_=>pure ()) Q E s:=by
  intro a
  obtain⟨o,e,n,vs,hc,hd,hn⟩:∃o,s.heap.get? it=some o/\∃n vs,o.cls=.type n/\o.data=.fields vs/\["enumerate","zip","dict_itemiterator","dict_reverseitemiterator","odict_iterator","itertools.zip_longest","itertools.pairwise"].contains n=false:=by
   cases x with
   |list p a _ _ _ hp hi=>obtain⟨o,e,h1,h2⟩:=hi;exact(nJ o e _ _ h1 h2 (by decide))
   |tup vs a tA _ _ _ hb hv hi=>obtain⟨o,e,h1,h2⟩:=hi;exact(nJ o e _ _ h1 h2 (by decide))
   |bytes b t _ _ _ hi=>obtain⟨o,e,h1,h2⟩:=hi;exact(nJ o e _ _ h1 h2 (by decide))
   |uV a b c _ _ _ hc hi=>exact(nJ _ hi _ _ rfl rfl (by decide))
  refine wpAny_bind (Gm e ?_);rw[hc,hd];dsimp only;rw[hn,HO];exact wpAny_pure h
 cases tg with
 |Tuple _ _ _ |List _ _=>
  cases v with
  |ref a=>exact key a
  |_=>exact wpAny_pure h
 |_=>exact wpAny_pure h
end
theorem FS.turn{w:CW}(F:FS false prog w U0 env vis ρ B μ H U h){a:CF}{o':Obj}(uu:a≠env.locals)
  (hold:∀o,h.get? a=some o->∀v,o.data≠.cell v) (nB:B.get? a=none) (nM:a∉μ) (nU:∀p,¬U0 a p) (hs:DF a h h') (e':h'.get? a=some o'):FS false prog w U0 env vis ρ B μ H (U.put a o') h':=by
 refine⟨F.inv.wu hs e' nB nM,?_,?_,λb p hu=>tD.tU (λq=>nU p (q▸hu)) (F.keep b p hu)⟩
 ·intro i x v h1 h2 h3;obtain⟨cv,g1,g2⟩:=F.nm i x v h1 h2 h3;refine(ae cv g1 ?_);rcases g2 with⟨g3,o,g4,g5⟩ |⟨g3,b,o,g4,g5,g6,g7⟩
  ·exact .inl (jv g3 o (tD.tU uu.symm g4) g5)
  ·refine .inr (eH g3 b o g4 (tD.tU ?_ g5) g6 g7);rintro rfl;refine o_aaea (F.inv.us _ _ g5) λZ Z sl e Z=>?_;exact hold _ e _ g6
 ·obtain⟨o,es,ep,g1,g2,g3⟩:=(F.own.dict);refine⟨(bZ o es ep (tD.tU uu.symm g1) g2 g3),?_,λq=>(nomatch q),λq=>(nomatch q),λq=>(nomatch q)⟩
  rintro b (rfl |⟨q,_⟩) p q' hp hq
  ·exact F.own.one _ (.inl rfl) p q' (hp.resolve_right λz=>uu z.1.symm).2 (hq.resolve_right λz=>uu z.1.symm).2
  ·cases q
theorem FS.clear{w:CW}{t:List Nat}(F:FS oc prog w U0 env vis ρ B μ H U h):FS oc prog w U0 env vis (Internal.clear t ρ) B μ H U h:=⟨F.inv,λi x v h1 h2 h3=>F.nm i x v h1 (aa8 h2 h3).1 h3,F.own,F.keep⟩
noncomputable def tN.tF(c:tN)(U:tD):tN:={c with U:=U}
section
variable {c:tN}{n:Nat}
theorem ahK{w:CW}{Q:Bool->CI->Prop}:∀(es:List CJ),Q false s->
  CH (CG prog w) A (forIn es false λc r=>if r=true then do let ok<-isTrue c env (eval c env);pure (Fo ok) else pure (Fo r)) Q E s:=by
 intro zi
 induction zi with
 |nil=>
 exact @λh=>wpAny_pure h
 |cons e es ih=>
 exact @λh=>by rw[Hh];simp -iota only[Fn,Fj];exact wpAny_bind (wpAny_pure (ih h))
theorem agA{es:List CJ}(hs:ua c n vis nk ps es):∀(A:Around)(env:Env)(ρ:aB)(m:Nat)(B:CL)(μ:List CF)(H:AH)(s:CI)(Q:Bool->CI->Prop)(E:CE->CI->Prop),
  ES c A env nk n m->u6 c env vis ρ B μ H s.heap->tj c s B μ jO ((t9 c.Γ ps m ρ H).bind λv H=>match v with | .bool b=>.ok (.bool b) H |_=>.bad) Q E->
  CH (CG c.prog c.w) A (forIn es true λc r=>if r=true then do let ok<-isTrue c env (eval c env);pure (Fo ok) else pure (Fo r)) Q E s:=by
 induction hs with
 |nil=>exact λA env ρ m B μ H s Q E S D P=>wpAny_pure (tj.now (a:=AV.bool true) (H:=H) P D.inv rfl)
 |cons h _ ih=>
  intro A env ρ m B μ H s Q E S D P;rw[Hh];refine wpAny_bind (wpAny_bind (h.b A env ρ m B μ H s _ E S D ?_));refine sR D (tj.to P aap) λb H' B' tB s' e D' hB tQ P'=>wpAny_pure ?_
  cases b with
  |true=>exact ih A env ρ m B' tB H' s' Q E S D' P'
  |false=>exact ahK _ (P'.now D'.inv rfl)
def mK(c:tN)(A:Around)(src:AV):Prop:=∀(U:tD)(B:CL)(μ:List CF)(H:AH)(s:CI)(it:CF)(j:Nat)(Q:Option CE->CI->Prop)(E:CE->CI->Prop)(r:Option AV),(∀b p,c.U b p->U b p)->Inv c.prog c.w B U μ H s.heap->wz B μ src j s.heap it->aS H src j=some r->
 (∀v cv h' t',r=some v->VR B μ v cv->wz B μ src (j+1) h' it->DF it s.heap h'->Q (some cv) {s with heap:=h',toks:=t'})->(∀h',r=none->DF it s.heap h'->Q none {s with heap:=h'})->CH (CG c.prog c.w) A (pyNext (.ref it)) Q E s
theorem acX(hh:A.handled=none):mK c A src:=λU B μ H s it j Q E r Z I x hi h1 h2=>mx (c:=c.tF U) hh I x hi h1 h2
theorem agy{m:Nat}{cl:List (Str×CF)}(S:ES c A env nk n (m+1))(hk:sc.kind=.function)(hf:gY nk sc=true)(v4:∀x,sc.names.lookup x=some .free->cl.lookup x=env.cells.lookup x)(hU:∀b p,c.U b p->U b p):
  ES (c.tF U) A (compEnvC sc cl C env) sc.names n m where
 kind:=hk
 glob:=S.glob
 blt:=S.blt
 Cs:=λx hx=>by show(relabel sc env).names.lookup x=_;unfold relabel;rw[nX hx];rfl
 cls:=λx hx=>by
  have vh:sc.names.lookup x=some .free:=by
   rcases hx with hx |hx
   ·exact CP rfl (jJ hf (oh hx)).1
   ·exact hx
  obtain⟨a,ha,_⟩:=S.cls x ((jJ hf (oh vh)).2.2 rfl).2;refine(ae a ((v4 x vh).trans ha) ?_);show(relabel sc env).names.lookup x=_\/(relabel sc env).names.lookup x=_;unfold relabel;rw[nX vh]
  split
  ·exact .inl rfl
  ·exact .inr rfl
 xO:=⟨S.xO.1,λe he=>o_aeeaa (S.xO.2 e he) λh1 L o h2 h3 h4=>(jw h1 L o h2 (hU _ _ h3) h4)⟩
 deep:=S.deep
 units:=by have:=S.units;exact al6 this
 u3:=by
  rcases S.u3 with h |⟨h1,h2,x,o,vs,h3,h4,h5⟩
  ·exact .inl h
  ·exact .inr (nF h1 h2 x o vs h3 (bE (hU _ _ h4) h5))
theorem agz{m:Nat}{cl:List (Str×CF)}{t:List Nat}(S:ES c A env nk n m)(hf:gY nk sc=true)(v4:∀x,sc.names.lookup x=some .free->cl.lookup x=env.cells.lookup x)
  (hU:∀b p,c.U b p->U b p) (nC:∀p,¬c.U C p) (N:wa env vis ρ B μ c.U):wa (compEnvC sc cl C env) (bP t xs vis sc.names) (clear t ρ) B μ U:=by
 intro i x v h1 h2 h3;obtain⟨h2,h4⟩:=aa8 h2 h3;rcases DP.mp h1 with h1 |h1
 ·exact CP (FH h1).1 h4
 ·obtain⟨h1,h5⟩:=Jp.mp h1;simp only[Bool.and_eq_true,Df] at h5;have vh:=h5.1;obtain⟨cv,g1,g2⟩:=N i x v h1 h2 h3;obtain⟨a,ha,hk⟩:=S.cls x ((jJ hf (oh vh)).2.2 rfl).2;have zM:env.kindOf x≠some .local:=λe=>by rw[e] at hk;rcases hk with hk |hk<;>cases hk
  refine(ae cv ?_ ?_)
  ·clear h3 h2;cases v<;>first |exact g1 |exact CP g1.2 zM
  ·rcases g2 with⟨g3,_⟩ |⟨g3,b,o,g4,g5,g6,g7⟩
   ·exact CP g3 zM
   ·refine .inr (eH ?_ b o ((v4 x vh).trans g4) (hU _ _ g5) g6 ?_)
    ·show(relabel sc env).names.lookup x=_\/(relabel sc env).names.lookup x=_;unfold relabel;rw[nX vh]
     split
     ·exact .inl rfl
     ·exact .inr rfl
    ·rintro rfl;exact nC o g5
end
def gG(Γ:Ctx)(elt:PE)(t:List Nat)(one:Bool)(conds:ui)(m:Nat)(ρ:aB)(v:AV)(H:AH):R (Option AV):=match bz H t one v ρ with
 |some ρ'=>(t9 Γ conds m ρ' H).bind λc H=>bN .bad c λr=>if r then(ev Γ elt m ρ' H).bind λx H=>.ok (some x) H else .ok none H
 |none=>.bad
theorem agv{t:List Nat}{m:Nat}{H2:AH}{o:Option AV}(h:gG Γ elt t one conds m ρ v H=.ok o H2):
  ∃ρ' b H1,bz H t one v ρ=some ρ'/\t9 Γ conds m ρ' H=.ok (.bool b) H1/\((b=false/\o=none/\H2=H1)\/(b=true/\∃x,ev Γ elt m ρ' H1=.ok x H2/\o=some x)):=by
 unfold gG at h
 cases q:bz H t one v ρ with
 |none=>rw[q] at h;cases h
 |some ρ'=>
  rw[q] at h;dsimp only at h
  cases q2:t9 Γ conds m ρ' H with
  |bad=>rw[q2] at h;cases h
  |exc k H1=>rw[q2] at h;cases h
  |ok cc H1=>
   rw[q2] at h
   cases cc with
   |bool b=>
    cases b with
    |false=>cases h;exact(bZ ρ' false _ rfl q2 (.inl ⟨rfl,rfl,rfl⟩))
    |true=>
     replace h:(ev Γ elt m ρ' H1).bind (λx H=>R.ok (some x) H)=R.ok o H2:=h
     cases q3:ev Γ elt m ρ' H1 with
     |bad=>rw[q3] at h;cases h
     |exc k H1=>rw[q3] at h;cases h
     |ok x H3=>rw[q3] at h;cases h;exact(bZ ρ' true _ rfl q2 (.inr (jv rfl x q3 rfl)))
   |_=>cases h
theorem agw{item:AH->Nat->Option (Option AV)}{f:AV->AH->R (Option AV)}:∀{k j:Nat}{acc xs:List AV}{H HF:AH},dp item f k j acc H=.ok xs HF->acc.length<=xs.length:=by
 intro zi
 induction zi with
 |zero=>
 exact @λZ Z Z Z Z h=>by cases h
 |succ k ih=>
 exact @λj acc xs H HF h=>by
  rcases abl (h:=h) with⟨_,e,_⟩ |⟨v,o,H1,_,_,h⟩
  ·subst e;exact Nat.le_refl _
  ·have:=ih h;rw[List.length_append] at this;exact LF this
theorem aiJ{w:CW}(x:wz B μ src j s.heap it)(h:Q (.ref it) s):CH (CG prog w) A (pyIter (.ref it)) Q E s:=by
 cases x with
 |list p a _ _ _ hp hi=>exact wpAny_pyIter_listiter hi h
 |tup vs a tA _ _ _ hb hv hi=>exact wpAny_pyIter_tupleiter hi h
 |bytes b t _ _ _ hi=>exact KBw.pyIter_self hi h
 |uV a b c _ _ _ hc hi=>exact wpAny_pyIter_rangeiter hi h
section
variable {c:tN}{n:Nat}
theorem FS.w{w:CW}(F:FS oc prog w U0 env vis ρ B μ H U h)(k:∀b p,U0' b p->U b p):FS oc prog w U0' env vis ρ B μ H U h:=⟨F.inv,F.nm,F.own,k⟩
def Got(B:CL)(μ:List CF)(h h':CL)(v:AV)(cv:CE):Prop:=VR B μ v cv\/∃T vs tA,v=.tup vs/\cv=.ref T/\h.get? T=none/\h'.get? T=some {cls:=.type "tuple",data:=.seq (Dg tA)}/\tK B μ vs tA
structure Src(c:tN)(A:Around)(tg:CJ)(it:CF)(as:List CF)(item:AH->Nat->Option (Option AV))(St:CL->List CF->Nat->CL->Prop):Prop where
 at_:∀{B B':CL}{μ tB:List CF}{j:Nat}{h h':CL},St B μ j h->(∀a∈as,∀o,h.get? a=some o->h'.get? a=some o)->B.StaysIn B'->Pre μ tB->St B' tB j h'
 obj:∀{B:CL}{μ:List CF}{j:Nat}{h:CL},St B μ j h->∀a∈as,∃o,h.get? a=some o/\Ex o
 self:∀{B:CL}{μ:List CF}{j:Nat}{s:CI}{Q:CE->CI->Prop}{E:CE->CI->Prop},St B μ j s.heap->Q (.ref it) s->CH (CG c.prog c.w) A (pyIter (.ref it)) Q E s
 next:∀(U:tD)(B:CL)(μ:List CF)(H:AH)(s:CI)(j:Nat)(r:Option AV)(Q:Option CE->CI->Prop)(E E':CE->CI->Prop),(∀b p,c.U b p->U b p)->Inv c.prog c.w B U μ H s.heap->St B μ j s.heap->item H j=some r->
  (∀v cv h' t',r=some v->Got B μ s.heap h' v cv->St B μ (j+1) h'->(∀b o,b∉as->s.heap.get? b=some o->h'.get? b=some o)->Q (some cv) {s with heap:=h',toks:=t'})->
  (∀h',r=none->(∀b o,b∉as->s.heap.get? b=some o->h'.get? b=some o)->Q none {s with heap:=h'})->
  CH (CG c.prog c.w) A (pyNext (.ref it)) (λr tz=>match r with
   |none=>Q none tz
   |some v=>CH (CG c.prog c.w) A (FV tg (.ref it) v) (λZ tM=>Q (some v) tM) E' tz) E s
theorem Ex.uA{o:Obj}(h:Ex o)(v:Option CE):o.data≠.cell v:=λq=>by rcases h with⟨vs,e⟩ |⟨xs,n,e⟩<;>(rw[e] at q;cases q)
theorem FS.turns{w:CW}(F:FS false prog w U0 env vis ρ B μ H U h){as:List CF}(hold:∀a∈as,a≠env.locals/\(∃o,h.get? a=some o/\Ex o)/\B.get? a=none/\a∉μ/\∀p,¬U0 a p)
  (hs:∀b o,b∉as->h.get? b=some o->h'.get? b=some o) (he:∀a∈as,∃o,h'.get? a=some o/\Ex o):FS false prog w U0 env vis ρ B μ H (λb p=>(b∉as/\U b p)\/(b∈as/\h'.get? b=some p)) h':=by
 have nL:env.locals∉as:=λhm=>(hold _ hm).1 rfl;refine⟨⟨λb o e=>hs b o (λhm=>by rw[(hold b hm).2.2.1] at e;cases e) (F.inv.base b o e),?_,F.inv.nodup,F.inv.fresh,F.inv.len,λi b o x y=>?_⟩,?_,?_,λb p hu=>.inl ⟨λhm=>(hold b hm).2.2.2.2 p hu,F.keep b p hu⟩⟩
 ·rintro b p (⟨hn,hu⟩ |⟨hm,e⟩)
  ·refine o_aaea (F.inv.us b p hu) λg1 g2 sl g3 g4=>?_;exact(fu g1 g2 sl (hs b _ hn g3) g4)
  ·obtain⟨_,_,g1,g2,_⟩:=hold b hm;exact(fu g1 g2 p.slots e (λZ=>rfl))
 ·obtain⟨ob,g1,g2⟩:=F.inv.objs i b o x y;exact(ae ob (hs b ob (λhm=>(hold b hm).2.2.2.1 (Eg.mpr ⟨i,x⟩)) g1) g2)
 ·intro i x v h1 h2 h3;obtain⟨cv,g1,g2⟩:=F.nm i x v h1 h2 h3;refine(ae cv g1 ?_);rcases g2 with⟨g3,o,g4,g5⟩ |⟨g3,b,o,g4,g5,g6,g7⟩
  ·exact .inl (jv g3 o (.inl ⟨nL,g4⟩) g5)
  ·refine .inr (eH g3 b o g4 (.inl ⟨λhm=>?_,g5⟩) g6 g7);(obtain⟨_,zq1,_⟩:=hold b hm;obtain⟨o',e',x'⟩:=zq1);refine o_aaea (F.inv.us _ _ g5) λZ Z sl e Z=>?_;rw[e'] at e;clear e';cases e;exact x'.uA _ g6
 ·obtain⟨o,es,ep,g1,g2,g3⟩:=(F.own.dict);refine⟨(bZ o es ep (.inl ⟨nL,g1⟩) g2 g3),?_,λq=>(nomatch q),λq=>(nomatch q),λq=>(nomatch q)⟩
  rintro b (rfl |⟨q,_⟩) p q' hp hq
  ·exact F.own.one _ (.inl rfl) p q' (hp.resolve_right λz=>nL z.1).2 (hq.resolve_right λz=>nL z.1).2
  ·cases q
theorem ah4{w:CW}(F:FS false prog w U0 env vis ρ B μ H U h')(hM:∀a∈μ,(h.get? a).isSome=true)(hU:∀a p,U a p->(h.get? a).isSome=true)
  (g:Got B μ h h' v cv):∃B',B.StaysIn B'/\VR B' μ v cv/\FS false prog w U0 env vis ρ B' μ H U h':=by
 rcases g with g |⟨T,vs,tA,rfl,rfl,e1,e2,g⟩
 ·exact(aI B (λZ Z e=>e) g F)
 ·refine o_eaa (F.inv.vQ e2 (λhm=>by have:=hM T hm;rw[e1] at this;cases this) (λp hu=>by have:=hU T p hu;rw[e1] at this;cases this)) λB' st eT J=>?_;exact(aI B' st (.tup vs T tA eT (g.mono st (Pre.refl _))) (F.step st (Pre.refl _) J))
theorem abo{m:Nat}{uX:CJ}{tY:List CJ}{t:List Nat}{item:AH->Nat->Option (Option AV)}{St:CL->List CF->Nat->CL->Prop}{HF:AH}{as:List CF}
  {cl:List (Str×CF)} {fuel:Nat} {x7:List AV} {E:CE->CI->Prop} {RR:CE->CF->Result->CI->Prop}
  (hE:∀U,ut (c.tF U) n (bP t xs vis sc.names) sc.names elt uX) (hC:∀U,ua (c.tF U) n (bP t xs vis sc.names) sc.names conds tY)
  (S:ES c A env nk n (m+1)) (hx:cZ one tg=some xs) (hl:t.length=xs.length) (uM:kj sc.names xs=true) (hk:sc.kind=.function) (hf:gY nk sc=true) (uz:bQ (bP t xs vis sc.names)=true)
  (v4:∀x,sc.names.lookup x=some .free->cl.lookup x=env.cells.lookup x) (yx:one=true\/A.handled=none) (nx:Src c A tg it as item St)
  (D:u6 c env vis ρ B μ H s.heap) (x:St B μ 0 s.heap) (nA:∀a∈as,B.get? a=none/\a∉μ/\∀p,¬c.U a p)
  (total:dp item (gG c.Γ elt t one conds m ρ) fuel 0 [] H=.ok x7 HF) (hlen:x7.length<=al)
  (fin:∀(D C:CF)(B':CL)(tB:List CF)(h':CL)(t':Nat)(tA:List CE)(nD:Nat),B.StaysIn B'->Pre μ tB->Inv c.prog c.w B' c.U tB HF h'->h'.get? D=some {cls:=.type "list",data:=.seq (Dg tA) nD}->tK B' tB x7 tA->
   (B'.get? D=none/\D∉tB/\∀p,¬c.U D p)->(B'.get? C=none/\C∉tB/\∀p,¬c.U C p)->C≠D->(∃m,h'.Ns C m)->RR (.ref D) C (.ok .next) {s with heap:=h',toks:=t'}):
  CH (CG c.prog c.w) A (newList []) (λacc ul=>CH (CG c.prog c.w) A (newFunctionEnv sc env.globals cl [] env.qual none .none (some env)) (λasb y7=>codeAny (CG c.prog c.w) A (.compStart (.ListComp uX [⟨tg,vF,tY,0⟩] sc pos) 0 (.ref it) acc {asb with scope:=relabel sc env}) (RR acc asb.locals) y7) E ul) E s:=by
 have asx:∀y∈sc.names,y.2≠.cell:=λy hy=>(jJ hf (x:=y.1) (k:=y.2) hy).1;have CA:t.Nodup:=by
  have h1:(bP t xs vis sc.names).map (·.1) |>.Nodup:=by simp only[bQ,Bool.and_eq_true,C9] at uz;exact uz.1
  unfold bP at h1;rw[Dx,Gc (C5 hl)] at h1;exact(Jq.mp h1).1
 refine IE (wpAny_newFunctionEnv asx (by intro y hy;simp at hy) (λtC wP wn=>?_) hk);dsimp only at wP wn⊢
 (revert wP wn;refine cX (s.heap.push {cls:=.type "list",dict:=none,data:=.seq ([]:List CE).toArray}) λH2 x8 wP wn=>?_)
 have uc:H2.objs.size=s.heap.objs.size+1:=by rw[<-x8,HU]
 have yR:H2.objs.size≠s.heap.objs.size:=by rw[uc];exact Nat.succ_ne_self _
 have old:∀b o,s.heap.get? b=some o->tC.get? b=some o:=λb o e=>by have:=Dh e;exact wn.extBut b o (by rw[uc];exact CV (EI this)) (Dc _ (x8▸Dc _ e))
 have eD:tC.get? s.heap.objs.size=some {cls:=.type "list",data:=.seq ([]:List CE).toArray}:=wn.extBut _ _ yR.symm (Dc _ (x8▸DG _ rfl))
 obtain⟨oC,es,ep,eC,dC,kC,_⟩:=id wP;have I0:=D.inv.ext old;have fresh:∀a,s.heap.objs.size<=a->B.get? a=none/\a∉μ/\∀p,¬c.U a p:=λa ha=>by
  refine⟨?_,λhm=>CY _ (Nat.lt_of_lt_of_le (D.inv.lt hm) ha),λp hu=>CY _ (Nat.lt_of_lt_of_le (D.inv.zO hu) ha)⟩
  cases q:B.get? a with
  |none=>rfl
  |some o=>exact CP (Nat.lt_of_lt_of_le (Dh (D.inv.base _ _ q)) ha) (CY _)
 obtain⟨fD1,fD2,Bz⟩:=fresh s.heap.objs.size (Nat.le_refl _);obtain⟨fC1,fC2,An⟩:=fresh H2.objs.size (by rw[uc];exact FL _);have zx:∀a∈as,a<s.heap.objs.size:=λa ha=>by obtain⟨o,e,_⟩:=nx.obj x a ha;exact Dh e
 have Bo:s.heap.objs.size∉as:=λhm=>CY _ (zx _ hm);have AP:∀a∈as,a≠H2.objs.size:=λa ha=>by rw[uc];exact CV (EI (zx a ha))
 have x1:St B μ 0 tC:=nx.at_ x (λa Z o e=>old _ _ e) (λZ Z e=>e) (Pre.refl _);have F0:FS false c.prog c.w c.U (compEnvC sc cl H2.objs.size env) (bP t xs vis sc.names) (clear t ρ) B μ H (c.U.put H2.objs.size oC) tC:=by
  refine⟨I0.wu (λb o Z e=>e) eC fC1 fC2,?_,?_,λb p hu=>tD.tU (λq=>An p (q▸hu)) hu⟩
  ·exact agz S hf v4 (λb p hu=>tD.tU (λq=>An p (q▸hu)) hu) An D.env
  ·refine⟨(bZ oC es ep (tD.t7 _ _ _) dC kC),?_,λq=>(nomatch q),λq=>(nomatch q),λq=>(nomatch q)⟩
   rintro b (rfl |⟨q,_⟩) p q' hp hq
   ·rw[tD.uS hp,tD.uS hq]
   ·cases q
 have F1:=F0.turn (a:=s.heap.objs.size) (o':={cls:=.type "list",data:=.seq ([]:List CE).toArray}) yR.symm (λo e v q=>by rw[eD] at e;cases e;cases q) fD1 fD2 Bz (λb o Z e=>e) eD
 have F2:=F1.turns (as:=as) (h':=tC) (λa ha=>⟨AP a ha,nx.obj x1 a ha,nA a ha⟩) (λb o Z e=>e) (nx.obj x1);have loop:codeAny (CG c.prog c.w) A (.compLoop (.ListComp uX [⟨tg,vF,tY,0⟩] sc pos) 0 (.ref it) (.ref s.heap.objs.size) (compEnvC sc cl H2.objs.size env)) (RR (.ref s.heap.objs.size) H2.objs.size)
   {s with heap:=tC,toks:=s.toks+([]:List (Str×CE)).length}:=by
  refine agx (λk s'=>∃j acc H1 B1 vj U1 h1 t1 tA nD,s'={s with heap:=h1,toks:=t1}/\dp item (gG c.Γ elt t one conds m ρ) k j acc H1=.ok x7 HF/\B.StaysIn B1/\Pre μ vj/\
   FS false c.prog c.w c.U (compEnvC sc cl H2.objs.size env) (bP t xs vis sc.names) (clear t ρ) B1 vj H1 U1 h1/\St B1 vj j h1/\(∀a∈as,∃o,U1 a o/\Ex o)/\U1 s.heap.objs.size {cls:=.type "list",data:=.seq (Dg tA) nD}/\tK B1 vj acc tA) ?_ fuel
   (dU 0 [] H B μ _ (ef tC _ [] 0 rfl total (dy (λZ Z e=>e) (Pre.refl _) F2 x1 (λa ha=>let⟨o,e,q⟩:=nx.obj x1 a ha;(ae o (.inr ⟨ha,e⟩) q)) (.inl ⟨Bo,tD.t7 _ _ _⟩) (.nil))))
  intro k s' N K3 K4 hN hK4 hK3 yc;(revert yc;refine r_eeeeee λj acc H1 B1 vj U1=>r_eeeeaa λh1 t1 tA nD zq10 xA=>r_aaaaaa λhB tQ F x wI wD va=>?_;subst zq10)
  cases k with
  |zero=>cases xA
  |succ k=>
   have Aa:∀a∈as,B1.get? a=none/\a∉vj:=λa ha=>by obtain⟨o,hu,_⟩:=wI a ha;obtain⟨b1,b2,_⟩:=F.inv.us _ _ hu;exact⟨b1,b2⟩
   rcases abl (h:=xA) with⟨hi,e,e'⟩ |⟨v,o,Bl,hi,q,xA⟩
   rotate_left
   ·have Aa:=Aa;obtain⟨ρ',b,H3,hb,hc,xh⟩:=agv q;refine C7 (nx.next U1 B1 vj H1 {s with heap:=h1,toks:=t1} j _ (λr tM=>match r with |none=>False |some v=>CH (CG c.prog c.w) A (assign tg (compEnvC sc cl H2.objs.size env) v) _ (λZ Z=>False) tM) (λZ Z=>False) (λZ Z=>False) F.keep F.inv x hi (λv' cv h' t' e atl x' hs=>?_) (λh' e hs=>by cases e)) (λr tz tC=>by cases r with |none=>exact tC.elim |some v=>exact tC) λZ Z z=>z
    cases e;have F'0:=F.turns (as:=as) (h':=h') (λa ha=>(gM (AP a ha) (nx.obj x a ha) ((Aa a ha).1) ((Aa a ha).2) ((nA a ha).2.2))) hs (nx.obj x');refine o_eaa (ah4 (h:=h1) F'0 (λa ha=>by
      obtain⟨i,hi⟩:=Eg.mp ha;have hl:i<H1.length:=F.inv.len▸(List.getElem?_eq_some_iff.mp hi).1;obtain⟨ob,wQ,_⟩:=F.inv.objs i a H1[i] hi (List.getElem?_eq_getElem hl);rw[wQ];rfl) (λa p hu=>by
      rcases hu with⟨_,hu⟩ |⟨ha,_⟩
      ·refine o_aaea (F.inv.us _ _ hu) λZ Z sl e Z=>?_;rw[e];rfl
      ·obtain⟨o,e,_⟩:=nx.obj x a ha;rw[e];rfl) atl) λB2 u5 hv F'=>?_
    have x'2:St B2 vj (j+1) h':=nx.at_ x' (λZ Z Z e=>e) u5 (Pre.refl _)
    let W:tD:=λb p=>c.U b p\/(b=s.heap.objs.size/\p={cls:=.type "list",data:=.seq (Dg tA) nD})\/(b∈as/\h'.get? b=some p)
    have FW:FS false c.prog c.w W (compEnvC sc cl H2.objs.size env) (bP t xs vis sc.names) (clear t ρ) B2 vj H1 _ h':=F'.w λb p hu=>by
     rcases hu with hu |⟨rfl,rfl⟩ |hu
     ·exact F'.keep b p hu
     ·exact .inl ⟨Bo,wD⟩
     ·exact .inr hu
    have atF:Off false W (compEnvC sc cl H2.objs.size env):=⟨λp hu=>by
     rcases hu with hu |⟨q,_⟩ |⟨q,_⟩
     ·exact An p hu
     ·exact yR q
     ·exact AP _ q rfl,λq=>(nomatch q)⟩
    refine uG (s:={s with heap:=h',toks:=t'}) one yx hx hl (by rw[afN CA];exact hb) hv FW atF uz hk (λi y hm=>?_) λh3 U3 t3 F3=>?_
    ·refine⟨GE _ hm,.inl ?_⟩;have hy:=(FH hm).2;have:=C1.mp uM y hy;exact lookup_relabel_local (Df.mp this)
    have AU:B.StaysIn B2:=λZ Z e=>u5 _ _ (hB _ _ e);have hU3:∀b p,c.U b p->U3 b p:=λb p hu=>F3.keep b p (.inl hu);have D3:u6 (c.tF U3) (compEnvC sc cl H2.objs.size env) (bP t xs vis sc.names) ρ' B2 vj H1 h3:=⟨F3.inv,F3.nm,D.uD.mono AU⟩;have S3:=agy (C:=H2.objs.size) S hk hf v4 hU3;have CC:∀a∈as,∃o,U3 a o/\Ex o/\h'.get? a=some o:=λa ha=>let⟨o,e,q⟩:=nx.obj x' a ha;(aI o (F3.keep a o (.inr (.inr ⟨ha,e⟩))) q e);have arD:∀{B:CL}{μ:List CF}{H:AH}{h:CL},Inv c.prog c.w B U3 μ H h->∀a∈as,∀o,h'.get? a=some o->h.get? a=some o:=λI a ha o e=>by obtain⟨o',w',q',e'⟩:=CC a ha;rw[e'] at e;clear e';cases e;exact I.at_ w' q'
    refine hK3 _ ?_;refine agA (hC U3) A _ ρ' m B2 vj H1 {s with heap:=h3,toks:=t3} _ _ S3 D3 ?_;rw[show(c.tF U3).Γ=c.Γ from rfl,hc];intro B4 zc h4 t4 b' wW vB I4 xg;obtain rfl:b'=b:=by cases xg;rfl
    have F4:FS false c.prog c.w W (compEnvC sc cl H2.objs.size env) (bP t xs vis sc.names) ρ' B4 zc H3 U3 h4:=F3.step wW vB I4;have x4:St B4 zc (j+1) h4:=nx.at_ x'2 (arD I4) wW vB;have va4:=(va.mono (λZ Z e=>wW _ _ (u5 _ _ e)) vB);clear q hc xg;rcases xh with⟨rfl,rfl,rfl⟩ |⟨rfl,y,hy,rfl⟩
    ·
     simp only[Fn,Fj];refine hN k _ (D6 _) (iQ (j+1) acc Bl B4 (dU zc U3 h4 t4 tA nD (dy rfl ?_ (λZ Z e=>wW _ _ (AU _ _ e)) (tQ.trans vB) ?_ x4 (bT (λa ha=>o_eaa (CC a ha) λo w' q' Z=>(ae o w' q')) (F3.keep _ _ (.inr (.inl ⟨rfl,rfl⟩))) va4))))
     ·simpa using xA
     ·have:=(F4.w (U0':=c.U) λb p hu=>F4.keep b p (.inl hu)).clear (t:=t);rw[aa7 CA hb] at this;exact this
    ·simp only[if_true];have D4:u6 (c.tF U3) (compEnvC sc cl H2.objs.size env) (bP t xs vis sc.names) ρ' B4 zc H3 h4:=⟨I4,F4.nm,(D.uD.mono AU).mono wW⟩;refine hK4 _ ?_;refine(hE U3).v A _ ρ' m B4 zc H3 {s with heap:=h4,toks:=t4} _ _ S3 D4 ?_;rw[show(c.tF U3).Γ=c.Γ from rfl,hy];intro B5 zd h5 t5 cy xx vJ I5 vy;have F5:FS false c.prog c.w W (compEnvC sc cl H2.objs.size env) (bP t xs vis sc.names) ρ' B5 zd Bl U3 h5:=F4.step xx vJ I5
     have wD5:=F3.keep s.heap.objs.size {cls:=.type "list",data:=.seq (Dg tA) nD} (.inr (.inl ⟨rfl,rfl⟩))
     have zS:=I5.at_ wD5 (.inr (cK _ _ rfl));have va5:=va4.mono xx vJ;have asF:acc.length+1<=x7.length:=by
      have:=agw xA
      simpa using this
     rw[dN] at hlen;refine HE JH (ae _ zS rfl) Mf (Me _ _) (Mt s.heap.objs.size tA.toArray nD cy (by rw[Dk,fG,va5.length];exact Nat.le_trans (CU asF) hlen)) ⟨zS,?_⟩;have e6:=JI (l:=s.heap.objs.size) zS (λx=>x.push cy);obtain⟨AD,hnD⟩:∃AD,AD=(if(tA.toArray.push cy).size==tA.toArray.size then nD else nD+1):=⟨_,rfl⟩
     replace e6:(h5.update s.heap.objs.size (GP λx=>x.push cy)).get? s.heap.objs.size=some {cls:=.type "list",data:=.seq (Dg (tA++[cy])) AD}:=by rw[hnD,<-Im];exact e6
     obtain⟨d1,d2,_⟩:=I5.us _ _ wD5;have F6:=(F5.w (U0':=c.U) λb p hu=>F5.keep b p (.inl hu)).turn (a:=s.heap.objs.size) yR.symm (λo e v q=>by rw[zS] at e;cases e;cases q) d1 d2 Bz (Gy ..).extBut e6;have F7:=F6.clear (t:=t);rw[aa7 CA hb] at F7;have neD:∀a∈as,a≠s.heap.objs.size:=λa ha=>CV (zx a ha)
     refine hN k _ (D6 _) (iQ (j+1) (acc++[y]) Bl B5 (dU zd (U3.put s.heap.objs.size {cls:=.type "list",data:=.seq (Dg (tA++[cy])) AD}) (h5.update s.heap.objs.size (GP λx=>x.push cy)) t5 (tA++[cy]) AD (dy rfl xA (λZ Z e=>xx _ _ (wW _ _ (AU _ _ e))) ((tQ.trans vB).trans vJ) F7 ?_ (bT (λa ha=>let⟨o,w',q',_⟩:=CC a ha;(ae o (tD.tU (neD a ha) w') q')) (tD.t7 _ _ _) (va5.append (.cons vy .nil))))))
     refine nx.at_ x'2 (λa ha o e=>(Ek _ _ (neD a ha).symm).trans (arD I5 a ha o e)) (λZ Z e=>xx _ _ (wW _ _ e)) (vB.trans vJ)
   ·subst e e';refine C7 (nx.next U1 B1 vj HF {s with heap:=h1,toks:=t1} j _ (λr tM=>match r with |none=>RR (.ref s.heap.objs.size) H2.objs.size (.ok .next) tM |some v=>False) (λZ Z=>False) (λZ Z=>False) F.keep F.inv x hi (λv' cv h' t' e hv x' hs=>by cases e) (λh' e hs=>?_)) (λr tz tC=>by
     cases r with
     |none=>exact tC
     |some v=>exact C7 tC (λZ Z z=>z.elim) λZ Z z=>z) λZ Z z=>z
    have I':Inv c.prog c.w B1 c.U vj HF h':=(F.inv.less F.keep).other λb o e q=>hs b o (λhm=>by
     rcases q with q |q |⟨u,q⟩
     ·rw[(Aa b hm).1] at q;cases q
     ·exact(Aa b hm).2 q
     ·exact(nA b hm).2.2 u q) e
    have zS:=F.inv.at_ wD (.inr (cK _ _ rfl));obtain⟨d1,d2,_⟩:=F.inv.us _ _ wD;obtain⟨oL,esL,epL,wL,dL,kL⟩:=(F.own.dict);refine o_aaea (F.inv.us _ _ wL) λl1 l2 sl eL Z=>?_;exact fin _ _ B1 vj h' t1 tA nD hB tQ I' (hs _ _ Bo zS) va ⟨d1,d2,Bz⟩ ⟨l1,l2,An⟩ yR (ef _ _ esL epL (hs _ _ (λhm=>AP _ hm rfl) eL) dL (bE kL (λZ=>rfl)))
 exact codeAny_compStart_list loop (nx.self x1 loop)
theorem apB(nx:mK c A src):Src c A tg it [it] (λH j=>aS H src j) (λB μ j h=>wz B μ src j h it) where
 at_:=λx k hB tQ=>x.at_ (k it (by simp)) hB tQ
 obj:=λx a ha=>by rw[DJ.mp ha];obtain⟨o,e,f⟩:=x.obj;exact(ae o e (.inl f))
 self:=λx q=>aiJ x q
 next:=λU B μ H s j r Q E E' hU I x hi h1 h2=>nx U B μ H s it j _ E r hU I x hi (λv cv h' t' e hv x' hs=>rq (s:={s with heap:=h',toks:=t'}) x' (h1 v cv h' t' e (.inl hv) x' λb o hb=>hs b o (by simpa using hb))) λh' e hs=>h2 h' e λb o hb=>hs b o (by simpa using hb)
end
variable {w:CW}
theorem ahc:entryFor table "proto.unchain"=some Builtin.«proto.unchain»:=entryFor_of_fast (by kernel_rfl)
section
theorem ai7{l x:CF}{i:Nat}{items:Array CE}{ox:Obj}{vs:Array CE}{Q:Option CE->CI->Prop}(hh:A.handled=some (.ref x))(ex:s.heap.get? x=some ox)(dx:ox.data=.fields vs)(h2:vs[2]?=some .none)
  (hit:s.heap.IsListIter it l i) (hl:s.heap.IsList l items) (hx:items[i]?=none) (uu:x≠it)
  (hQ:∀h',DF it s.heap h'->Q none {s with heap:=h'}):CH (CG prog w) A (pyNext (.ref it)) Q E s:=by
 obtain⟨o,ho,hc,hd⟩:=id hit;obtain⟨ol,Ch,_,nl,yU⟩:=hl;unfold pyNext
 refine wpAny_bind (JV (MU (name:=Ei "__next__") hit.typeIs MR
  (ID MR hit.typeIs entry_listiter_next ?_ (args_listiter_next _))))
 show CH _ _ (field (.ref it) 0>>=_) _ _ s;refine wpAny_bind (EP ho hd (x:=.ref l) rfl ?_);show CH _ _ (if(Dp l==Do)=true then _ else _) _ _ s
 rw[CQ (show ¬((Dp l==Do)=true) from HP)];show CH _ _ (field (.ref it) 1>>=_) _ _ s;refine wpAny_bind (EP ho hd (x:=.int i 0) rfl ?_);show CH _ _ (seqItems? (.ref l)>>=_) _ _ s;refine wpAny_bind (wpAny_seqItems Ch yU ?_);simp only[DW,hx];refine wpAny_bind (HJ (wpAny_bind (Go ho hd (by simp) ?_)))
 show CH _ _ (newExc (.type "StopIteration") []>>=_) _ _ _
 refine wpAny_bind ?_;simp only[newExc,newTuple];refine wpAny_bind (IE ?_ (by size_fits));refine wpAny_bind (m:=firstArgMember _ _) (Da (a:=Do) (by first |rfl |(simp only[firstArgMember];rfl)) ?_)
 refine IE ?_ (by size_fits);show CH _ _ (handled>>=_) _ _ _;refine wpAny_bind (wpAny_handled ?_);rw[show A.in1.handled=some (.ref x) from hh];dsimp only;refine cX (s.heap.update it _) λh1 hS=>?_;have sb:Ku it s.heap h1:=by rw[<-hS];exact Gy ..
 have xY:x<s.heap.objs.size:=Dh ex;have uc:h1.objs.size=s.heap.objs.size:=by rw[<-hS];exact CL.size_update ..
 refine cX (h1.push {cls:=.type "tuple",data:=.seq #[]}) λyl hT=>?_
 have hT2:yl.objs.size=h1.objs.size+1:=by rw[<-hT,HU]
 refine cX (({cls:=Fw "StopIteration",data:=Data.fields (#[Dp h1.objs.size,Do,Do,Do,MA false,Do]++ownMembersOf (Fw "StopIteration") [])}:Obj)) λoe hO=>?_
 have eX:(yl.push oe).get? x=some ox:=Dc _ (by rw[<-hT];exact Dc _ ((sb.2 x uu).trans ex));have eE:(yl.push oe).get? yl.objs.size=some oe:=DG _ (by rw[<-hO];rfl);have hxe:x≠yl.objs.size:=by rw[hT2,uc];exact CV (EI xY)
 rw[CM (by simpa using hxe)];refine wpAny_bind (DB (wpAny_runValue (JN ahc ?_)));show CH _ _ (field (.ref x) 2>>=_) _ _ _;refine wpAny_bind (EP eX dx (x:=.none) h2 ?_);show CH _ _ (ret .none>>=λr=>pure r) _ _ _;refine wpAny_bind (wpAny_pure (wpAny_pure ?_));show CH _ _ (setField (.ref yl.objs.size) 2 (.ref x)>>=_) _ _ _
 refine wpAny_bind (Go eE (show oe.data=.fields (#[Dp h1.objs.size,Do,Do,Do,MA false,Do]++ownMembersOf (Fw "StopIteration") []) by rw[<-hO]) (Nat.le_of_ble_eq_true (by kernel_rfl)) ?_)
 refine wpAny_throw ?_
 refine wpAny_bind (GT (T:="StopIteration") (b:=true) (ae _ (Eu _ eE (by rw[<-hO];rfl)) (by rw[<-hO];rfl)) isSubtype_stop ?_)
 refine wpAny_pure (hQ _ λb o hb e=>?_);have:b<s.heap.objs.size:=Dh e;refine(Ek _ _ ?_).trans (Dc _ (by rw[<-hT];exact Dc _ ((sb.2 b hb).trans e)));rw[hT2,uc];exact(CV (EI this)).symm
end
theorem rL{e:CJ}(h:TE vis nk pe e)(env:Env)(x:CE):foldedSetIterable e env x=pure x:=h.nice.iter env x
theorem Inv.adopt(I:Inv prog w B U μ H h){a:CF}{o:Obj}(e:h.get? a=some o)(nB:B.get? a=none)(nM:a∉μ)(nU:∀p,¬U a p)(ho:OR B μ prog w ao o)(hf:¬d6 o):
  Inv prog w B U (μ++[a]) (H++[ao]) h:=by
 refine⟨I.base,λb p hu=>?_,?_,λb hb=>?_,by simp[I.len],λi b p x y=>?_⟩
 ·obtain⟨g1,g2,g3⟩:=I.us b p hu;refine⟨g1,λhm=>?_,g3⟩;rcases DP.mp hm with hm |hm
  ·exact g2 hm
  ·rw[DJ.mp hm] at hu;exact nU p hu
 ·rw[Jq];refine⟨I.nodup,by simp,λx hx y hy=>?_⟩;rw[DJ.mp hy];rintro rfl;exact nM hx
 ·rcases DP.mp hb with hb |hb
  ·exact I.fresh b hb
  ·rw[DJ.mp hb];exact nB
 ·by_cases hi:i<μ.length
  ·rw[Ee hi] at x;rw[Ee (I.len▸hi)] at y;obtain⟨ob,g1,g2,g3⟩:=I.objs i b p x y;exact(aI ob g1 (g2.mono (λZ Z e=>e) (Pre.snoc _ _)) g3)
  ·have BY:i=μ.length:=by
    have:=(List.getElem?_eq_some_iff.mp x).1;rw[List.length_append,Le] at this;exact LD this hi
   clear hi;subst BY;rw[F9 (Nat.le_refl _),FN] at x;rw[I.len,F9 (Nat.le_refl _),FN] at y;cases x;cases y;exact(aI o e (ho.mono (λZ Z e=>e) (Pre.snoc _ _)) hf)
theorem R.uG(a:α)(H:AH)(f:α->AH->R β):(R.ok a H).bind f=f a H:=rfl
theorem abm{item:AH->Nat->Option (Option AV)}{f:AV->AH->R (Option AV)}:∀(k j:Nat)(acc:List AV)(H:AH),(∃xs HF,dp item f k j acc H=.ok xs HF)\/dp item f k j acc H=.bad:=by
 intro zi
 induction zi with
 |zero=>
 exact @λZ Z Z=>.inr rfl
 |succ k ih=>
 exact @λj acc H=>by
  rw[Ag.s]
  cases item H j with
  |none=>exact .inr rfl
  |some r=>
   cases r with
   |none=>exact .inl (cK _ _ rfl)
   |some v=>
    dsimp only
    cases f v H with
    |ok=>exact ih _ _ _
    |exc=>exact .inr rfl
    |bad=>exact .inr rfl
section
variable {c:tN}{n:Nat}
set_option tactic.hygienic true in
theorem ajS{p:Nat}(h:Hnd A c):mK c A (.ref p):=by
 rcases h with⟨_,h⟩ |⟨_,_,x,o,vs,hx,hu,hd,h2⟩
 ·exact acX h
 ·intro U B μ H s it j Q E r hU I xI hi h1 yl;have ex:=I.at_ (hU _ _ hu) (.inl ⟨vs,hd⟩);cases xI with |list _ a _ _ _ hp hit=>
  obtain⟨xs,xY,hi⟩:=aci hi;subst hi;obtain⟨tA,n,g1,g2,_⟩:=I.list hp xY
  cases q:xs[j]? with
  |some v=>obtain⟨cv,g3,g4⟩:=g2.get q;exact M4 hit (cH g1) (by simpa using g3) λh' wN hs=>h1 v cv h' s.toks q g4 (.list p a _ _ _ hp wN) hs.extBut
  |none=>
   refine ai7 hx ex hd h2 hit (cH g1) ?_ ?_ λh' hs=>yl h' q hs
   ·have:=E0.mp q;rw[Hj,E0,g2.length];exact this
   ·rintro rfl;obtain⟨oi,ei,_,di⟩:=hit;rw[ex] at ei;cases ei;rw[hd] at di;clear hd;cases di;cases h2
theorem abp{m:Nat}{it:PE}{uX:CJ}{tY:List CJ}{t:List Nat}{atB:Pos}
  {use:Option (CE->Sem Unit)} {Q₁:CE->CI->Prop}
  (hI:aO c n vis nk it vF) (tI:TE vis nk it vF) (hE:∀U,ut (c.tF U) n (bP t xs vis sc.names) sc.names elt uX) (hC:∀U,ua (c.tF U) n (bP t xs vis sc.names) sc.names conds tY)
  (S:ES c A env nk n (m+1)) (hx:cZ one tg=some xs) (hl:t.length=xs.length) (uM:kj sc.names xs=true) (hk:sc.kind=.function) (hf:gY nk sc=true) (uz:bQ (bP t xs vis sc.names)=true)
  (D:u6 c env vis ρ B μ H s.heap) (P:tj c s B μ VR (ev c.Γ (.comp elt t one it .nil conds) (m+1) ρ H) Q₁ E)
  (hQ:∀(D C:CF)(s2:CI)(B2:CL)(vN:List CF)(H2:AH)(v:AV),ev c.Γ (.comp elt t one it .nil conds) (m+1) ρ H=.ok v H2->B.StaysIn B2->Pre μ vN->Inv c.prog c.w B2 c.U vN H2 s2.heap->VR B2 vN v (.ref D)->(∃m,s2.heap.Ns C m)->(B2.get? C=none/\C∉vN/\∀p,¬c.U C p)->
   (∀h',Ku C s2.heap h'->Q₁ (.ref D) {s2 with heap:=h'})->compPost (CG c.prog c.w) A E use Q (.ref D) C (.ok .next) s2):
  CH (CG c.prog c.w) A (comprehension (.ListComp uX [⟨tg,vF,tY,0⟩] sc pos) sc env atB (newList []) false (eval vF env) use) Q E s:=by
 obtain⟨cl,yp,v4⟩:=abb hf S.cls;refine MV rfl (λx=>rL tI env x) yp hk (λy hy e=>(jJ hf (x:=y.1) (k:=y.2) hy).2.1 e) ?_;replace P:=tj.to P E1.comp;refine hI A env ρ (m+1) B μ H s _ E S D (aX D P λsrc H' B' tB s' yh e D' atN hB tQ P'=>?_);rw[E2.nil] at P';replace P':tj c s' B' tB VR (if(c.Γ.hd&& !(fg src&&([]:List AV).isEmpty&&one))=true then .bad else
   (dp (λH j=>aS H src j) (gG c.Γ elt t one conds m ρ) (cJ H' src+1) 0 [] H').bind λxs H=>cn xs H) Q₁ E:=P'
 split at P'
 ·exact P'.elim
 ·rename_i vU
  rcases abm (item:=λH j=>aS H src j) (f:=gG c.Γ elt t one conds m ρ) (cJ H' src+1) 0 [] H' with⟨x7,HF,xA⟩ |bad
  ·rw[xA] at P';replace P':tj c s' B' tB VR (cn x7 HF) Q₁ E:=P';have hi:∃r,aS H' src 0=some r:=by
    cases q:aS H' src 0 with
    |some r=>exact⟨r,rfl⟩
    |none=>rw[Ag.s] at xA;rw[q] at xA;cases xA
   obtain⟨r,hi⟩:=hi;unfold cn at P'
   split at P'
   ·rename_i hlen
    refine oM D'.inv atN hi λo x=>?_;have nB:=D'.inv.xq;have nM:=D'.inv.nextM;have nU:=D'.inv.wF;have D1:u6 c env vis ρ B' tB H' (s'.heap.push o):=⟨D'.inv.push o,D'.env,D'.uD⟩;have yx:one=true\/A.handled=none:=by
     rcases S.u3 with⟨_,h⟩ |⟨h,_⟩
     ·exact .inr h
     ·rw[h] at vU;have hX:(fg src&&([]:List AV).isEmpty&&one)=true:=by
       cases q:(fg src&&([]:List AV).isEmpty&&one) with
       |true=>rfl
       |false=>exact CP (by rw[q];rfl) vU
      exact .inl (Fm.mp hX).2
    have nx:mK c A src:=by
     rcases S.u3 with⟨_,h⟩ |⟨h,_⟩
     ·exact acX h
     ·rw[h] at vU;have hX:(fg src&&([]:List AV).isEmpty&&one)=true:=by
       cases q:(fg src&&([]:List AV).isEmpty&&one) with
       |true=>rfl
       |false=>exact CP (by rw[q];rfl) vU
      have hR:=(Fm.mp (Fm.mp hX).1).1
      cases src with
      |ref p=>exact ajS S.u3
      |_=>cases hR
    refine abo (s:={s' with heap:=s'.heap.push o}) (RR:=compPost (CG c.prog c.w) A E use Q) hE hC S hx hl uM hk hf uz v4 yx (apB nx) D1 x (λa ha=>by rw[DJ.mp ha];exact⟨nB,nM,nU⟩) xA hlen ?_;intro D C B2 vN h2 t2 tA nD u5 uk I2 eD vD fD fC yR zA;have J:=I2.adopt eD fD.1 fD.2.1 fD.2.2 (ao:=.list x7) (ax tA nD rfl vD hlen) (jC rfl);have vr:VR B2 (vN++[D]) (.ref HF.length) (.ref D):=.ref _ _ (kt I2.len);have nC:C∉vN++[D]:=λhm=>(DP.mp hm).elim fC.2.1 λq=>yR (DJ.mp q);have zW:ev c.Γ (.comp elt t one it .nil conds) (m+1) ρ H=.ok (.ref HF.length) (HF++[.list x7]):=by
     rw[E1.comp];show(ev c.Γ it (m+1) ρ H).bind _=_;rw[e,R.uG];rw[E2.nil];rw[R.uG];show(if(c.Γ.hd&& !(fg src&&([]:List AV).isEmpty&&one))=true then .bad else(dp (λH j=>aS H src j) (gG c.Γ elt t one conds m ρ) (cJ H' src+1) 0 [] H').bind λxs H=>cn xs H)=_
     rw[CQ vU,xA,R.uG];unfold cn;rw[CM hlen]
    refine hQ D C _ B2 (vN++[D]) (HF++[.list x7]) (.ref HF.length) zW (λZ Z q=>u5 _ _ (hB _ _ q)) ((tQ.trans uk).trans (Pre.snoc _ _)) J vr zA ⟨fC.1,nC,fC.2.2⟩ λh' hs=>?_;exact P' B2 _ h' t2 _ u5 (uk.trans (Pre.snoc _ _)) (J.but hs.extBut fC.1 nC fC.2.2) vr
   ·exact P'.elim
  ·rw[bad] at P';exact P'.elim
theorem aoO{it:PE}{uX:CJ}{tY:List CJ}{t:List Nat}
  (hI:aO c n vis nk it vF) (tI:TE vis nk it vF) (hE:∀U,ut (c.tF U) n (bP t xs vis sc.names) sc.names elt uX) (hC:∀U,ua (c.tF U) n (bP t xs vis sc.names) sc.names conds tY)
  (hx:cZ one tg=some xs) (hl:t.length=xs.length) (uM:kj sc.names xs=true) (hk:sc.kind=.function) (hf:gY nk sc=true) (uz:bQ (bP t xs vis sc.names)=true):
  aO c n vis nk (.comp elt t one it .nil conds) (.ListComp uX [⟨tg,vF,tY,0⟩] sc pos):=λA env ρ m B μ H s Q E S D P=>by
 cases m with
 |zero=>replace P:=tj.to P E1.arQ;exact P.elim
 |succ m=>rw[eval_ListComp];show CH _ _ (comprehension _ sc env _ (newList []) false (eval vF env) none) _ _ _;exact abp (use:=none) hI tI hE hC S hx hl uM hk hf uz D P λD C s2 B2 vN H2 v Z Z Z Z Z zA Z h=>let⟨m,hm⟩:=zA;(ae m hm h)
end
theorem ro(h:l8 sc=true):sc.kind=.function:=by simp only[l8,Bool.and_eq_true] at h;obtain⟨⟨⟨h,_⟩,_⟩,_⟩:=h;cases q:sc.kind<;>rw[q] at h<;>first |rfl |cases h
def hV(c:tN)(n:Nat):Prop:=∀(U:tD)(vis:aN)(nk:aP)(i j1 j2:Nat)(x:Str)(np pos:Pos),(i,x)∈vis->fy x=true->(j1,("width":Str))∈vis->(j2,("height":Str))∈vis->
 aO (c.tF U) n vis nk (.tH i [j1,j2]) (.Call (.Name x np) [] [] pos)
def iC(c:tN)(n:Nat):Prop:=∀(U:tD)(vis:aN)(nk:aP)(elt:PE)(t:List Nat)(one:Bool)(it xN:PE)(conds:ui)(uX tg vF y5:CJ)(tY:List CJ)(sc:Scope)(pos:Pos)(xs:List Str)(np zp:Pos),
 (∀U,ut (c.tF U) n vis nk it vF)->(∀U,ut (c.tF U) n vis nk xN y5)->glob? nk "zip"=true->one=false->cZ one tg=some xs->t.length=xs.length->kj sc.names xs=true->l8 sc=true->(gY nk sc&&bQ (bP t xs vis sc.names))=true->
 (∀U,ut (c.tF U) n (bP t xs vis sc.names) sc.names elt uX)->(∀U,ua (c.tF U) n (bP t xs vis sc.names) sc.names conds tY)->
 aO (c.tF U) n vis nk (.comp elt t one it (.cons xN .nil) conds) (.ListComp uX [⟨tg,.Call (.Name "zip" np) [vF,y5] [] zp,tY,0⟩] sc pos)
section
variable {c:tN}{n:Nat}
theorem aaN{c:tN}{e:CJ}(t:TE vis nk pe e)(h:aO c n vis nk pe e)(he:∀env whole,isTrue e env whole=(do let v<-whole;standAt e.pos;holding [v] (truthy v))):ut c n vis nk pe e:=⟨t,h,aqf h he⟩
theorem ahY{c:tN}(hg:glob? nk (eG k)=true)(hk:k<=5):aO c n vis nk (.glob k) (.Name (eG k) pos):=λA env ρ m B μ H s Q E S D P=>by replace P:=tj.to P E1.glob;obtain⟨g,b,n1,n2,n3,_⟩:=(D.uD.ns);obtain⟨cv,h1,h2⟩:=n3 k hk;exact eg S D hg (ax g b n1 n2 (.inl h1)) (P.now D.inv (h2 μ))
section
variable {e e':CJ}
theorem cC(h:e=e')(t:TE vis nk pe e)(v:aO c n vis nk pe e')(he:∀env whole,isTrue e' env whole=(do let v<-whole;standAt e'.pos;holding [v] (truthy v))):ut c n vis nk pe e:=by subst h;exact aaN t v he
theorem jY(h:e=e')(t:TE vis nk pe e)(v:aO c n vis nk pe e'/\ib c n vis nk pe e'):ut c n vis nk pe e:=by subst h;exact⟨t,v.1,v.2⟩
theorem afG{es:ui}(h:ua c n vis nk es fs)(hl:2<=fs.length):aO c n vis nk (.band es) (.BoolOp .And fs p)/\ib c n vis nk (.band es) (.BoolOp .And fs p):=by
 refine⟨?_,λA env ρ m B μ H s Q E S D P=>?_⟩
 ·cases h with
  |nil=>exact CP hl (by decide)
  |cons h1 h2=>exact aoH h1 h2
 ·refine MZ (ap6 h A env ρ m B μ H s Q E S D ?_);rw[E1.band] at P;exact P
theorem af1{es:ui}(h:ua c n vis nk es fs)(hl:2<=fs.length):aO c n vis nk (.bor es) (.BoolOp .Or fs p)/\ib c n vis nk (.bor es) (.BoolOp .Or fs p):=by
 refine⟨?_,λA env ρ m B μ H s Q E S D P=>?_⟩
 ·cases h with
  |nil=>exact CP hl (by decide)
  |cons h1 h2=>exact aoK h1 h2
 ·refine MZ (ap7 h A env ρ m B μ H s Q E S D ?_);rw[E1.bor] at P;exact P
theorem aiE{es:ui}{tp:Pos}(hg:glob? nk (dI .isInt)=true)(wX:glob? nk "int"=true)(h:ua c n vis nk es [l]):aO c n vis nk (.bi .isInt es) (.Call (.Name (dI .isInt) np) [l,.Name "int" tp] [] p):=by cases h with |cons h1 h2=>cases h2;exact aoY hg wX h1
theorem wc.of{e:PE}{es:ui}{o:Option CJ}{f:CJ}(h1:es=.nil)(h2:o=Option.some f)(h:aO c n vis nk e f):wc c n vis nk (.cons e es) o:=by subst h1 h2;exact .some h
theorem ua.of{e:PE}{es:ui}{gs:List CJ}{f:CJ}(h1:fs=f::gs)(h:ut c n vis nk e f)(hs:ua c n vis nk es gs):ua c n vis nk (.cons e es) fs:=by subst h1;exact .cons h hs
theorem ajT(h:fs=[]):ua c n vis nk .nil fs:=by subst h;exact .nil
theorem ajW{o:Option CJ}(h:o=none):wc c n vis nk .nil o:=by subst h;exact .none
theorem ai0(LR:hV c n)(U:tD){i j1 j2:Nat}{ue:List Nat}(hc:ue=[j1,j2])(h1:(i,x)∈vis)(h2:fy x=true)(h3:(j1,("width":Str))∈vis)(h4:(j2,("height":Str))∈vis):aO (c.tF U) n vis nk (.tH i ue) (.Call (.Name x np) [] [] pos):=by subst hc;exact LR U vis nk i j1 j2 x np pos h1 h2 h3 h4
theorem gJ{t:List Nat}(h:ni t xs vis nk sc=true):t.length=xs.length/\kj sc.names xs=true/\l8 sc=true/\gY nk sc=true/\bQ (bP t xs vis sc.names)=true:=(bY (Dv (aa h).1) ((aa (aa h).2).1) ((aa (aa (aa h).2).2).1) (aa (aa (aa (aa h).2).2).2))
end
mutual
theorem cj(CO:∀U,eU (c.tF U) n)(NO:∀U,ia (c.tF U) n)(LR:hV c n)(ZR:iC c n):∀{vis:aN}{nk:aP}(pe:PE){e:CJ},TE vis nk pe e->∀U,ut (c.tF U) n vis nk pe e
 |_,_,.var i,_,h,U=>cC h.1 h (apf h.2.1 h.2.2) λZ Z=>rfl
 |_,_,.glob k,_,h,U=>cC h.1 h (ahY h.2.1 h.2.2) λZ Z=>rfl
 |_,_,.tm i,_,h,U=>cC h h aoR λZ Z=>rfl
 |_,_,.tO i,_,h,U=>cC h h adW λZ Z=>rfl
 |_,_,.tu i,_,h,U=>cC h.1 h (aoQ h.2) λZ Z=>rfl
 |_,_,.un i,_,h,U=>cC h h aoP λZ Z=>rfl
 |_,_,.bin o a b,_,h,U=>cC h.1 h (aoJ (cj CO NO LR ZR a h.2.1 U).v (cj CO NO LR ZR b h.2.2 U).v) λZ Z=>rfl
 |_,_,.neg a,_,h,U=>cC h.1 h (ao5 (cj CO NO LR ZR a h.2 U).v) λZ Z=>rfl
 |_,_,.not a,_,h,U=>jY h.1 h (ao7 (cj CO NO LR ZR a h.2 U))
 |_,_,.band es,_,h,U=>jY h.1 h (afG (tV CO NO LR ZR es h.2.1 U) h.2.2)
 |_,_,.bor es,_,h,U=>jY h.1 h (af1 (tV CO NO LR ZR es h.2.1 U) h.2.2)
 |_,_,.cmp a o b,_,h,U=>jY h.1 h (aoM (cj CO NO LR ZR a h.2.1 U).v (cj CO NO LR ZR b h.2.2 U))
 |_,_,.uK a o b o' d,_,h,U=>jY h.1 h (aoN (cj CO NO LR ZR a h.2.1 U).v (cj CO NO LR ZR b h.2.2.1 U) (cj CO NO LR ZR d h.2.2.2 U))
 |_,_,.vd d a b,_,h,U=>jY h.1 h (aoX (cj CO NO LR ZR d h.2.1 U) (cj CO NO LR ZR a h.2.2.1 U) (cj CO NO LR ZR b h.2.2.2 U))
 |_,_,.list es,_,h,U=>cC h.1 h (aoZ (tV CO NO LR ZR es h.2 U).sound) λZ Z=>rfl
 |_,_,.tup es,_,h,U=>cC h.1 h (ape h.2.1 h.2.2 (tV CO NO LR ZR es h.2.1 U).sound) λZ Z=>rfl
 |_,_,.uR,_,h,U=>cC h h aoT λZ Z=>rfl
 |_,_,.idx a i,_,h,U=>cC h.1 h (aoW (cj CO NO LR ZR a h.2.1 U).v (cj CO NO LR ZR i h.2.2 U).v) λZ Z=>rfl
 |_,_,.slice a lo hi st,_,h,U=>cC h.1 h (apa (cj CO NO LR ZR a h.2.1 U).v (wS CO NO LR ZR lo h.2.2.1 U) (wS CO NO LR ZR hi h.2.2.2.1 U) (wS CO NO LR ZR st h.2.2.2.2 U)) λZ Z=>rfl
 |_,_,.attr a k,_,h,U=>cC h.1 h (aoG (cj CO NO LR ZR a h.2.1 U).v h.2.2.2) λZ Z=>rfl
 |_,_,.comp elt t one it .nil conds,_,h,U=>cC h.1 h (aoO (cj CO NO LR ZR it h.2.2.2.2.2 U).v h.2.2.2.2.2 (cj CO NO LR ZR elt h.2.2.2.1) (tV CO NO LR ZR conds h.2.2.2.2.1) h.2.1 (gJ h.2.2.1).1 (gJ h.2.2.1).2.1 (ro (gJ h.2.2.1).2.2.1) (gJ h.2.2.1).2.2.2.1 (gJ h.2.2.1).2.2.2.2) λZ Z=>rfl
 |vis,nk,.comp elt t one it (.cons xN es) conds,e,h,U=>by obtain⟨rfl,z1,z2,z3,z4,z5⟩:=h.2.2.2.2.2;exact cC (h.1.trans (CN (λi=>PySem.Expr.ListComp (view e).a [⟨(gen (view e).gs).target,i,(gen (view e).gs).ifs,0⟩] (view e).sc (view e).p) z1)) h (ZR U vis nk elt t one it xN conds _ _ _ _ _ _ _ _ _ _ (cj CO NO LR ZR it z4) (cj CO NO LR ZR xN z5) z2 z3 h.2.1 (gJ h.2.2.1).1 (gJ h.2.2.1).2.1 (gJ h.2.2.1).2.2.1 (Fm.mpr (gJ h.2.2.1).2.2.2) (cj CO NO LR ZR elt h.2.2.2.1) (tV CO NO LR ZR conds h.2.2.2.2.1)) λZ Z=>rfl
 |_,_,.call k es,_,h,U=>cC h.1 h (aoL (CO U) h.2.1 h.2.2.1 (tV CO NO LR ZR es h.2.2.2 U)) λZ Z=>rfl
 |_,_,.new k es,_,h,U=>cC h.1 h (ao6 (NO U) h.2.2.1 h.2.1 (tV CO NO LR ZR es h.2.2.2 U)) λZ Z=>rfl
 |_,_,.bi f es,e,h,U=>by
  rcases h.2.2 with q |⟨q1,q2,q3,q4⟩
  ·exact cC h.1 h (aoI q.1 h.2.1 (tV CO NO LR ZR es q.2 U)) λZ Z=>rfl
  ·subst q1;exact cC (h.1.trans (CN (λl=>JF (.Name (dI .isInt) (view (view e).a).p) l [] (view e).p) q2)) h (aiE h.2.1 q3 (tV CO NO LR ZR es q4 U)) λZ Z=>rfl
 |_,_,.tT m o es,_,h,U=>cC h.1 h (ao1 h.2.1 (cj CO NO LR ZR o h.2.2.1 U).v (tV CO NO LR ZR es h.2.2.2 U)) λZ Z=>rfl
 |_,_,.most o,_,h,U=>cC h.1 h (ao2 (CO U) h.2.1 (cj CO NO LR ZR o h.2.2 U).v) λZ Z=>rfl
 |_,_,.tH i ue,_,h,U=>cC h.1 h (ai0 LR U h.2.1 h.2.2.1 h.2.2.2.1 h.2.2.2.2.1 h.2.2.2.2.2) λZ Z=>rfl
theorem tV(CO:∀U,eU (c.tF U) n)(NO:∀U,ia (c.tF U) n)(LR:hV c n)(ZR:iC c n):∀{vis:aN}{nk:aP}(pe:ui){e:List CJ},vg vis nk pe e->∀U,ua (c.tF U) n vis nk pe e
 |_,_,.nil,_,h,U=>ajT h
 |_,_,.cons e es,_,h,U=>.of h.1 (cj CO NO LR ZR e h.2.1 U) (tV CO NO LR ZR es h.2.2 U)
theorem wS(CO:∀U,eU (c.tF U) n)(NO:∀U,ia (c.tF U) n)(LR:hV c n)(ZR:iC c n):∀{vis:aN}{nk:aP}(pe:ui){e:Option CJ},TO vis nk pe e->∀U,wc (c.tF U) n vis nk pe e
 |_,_,.nil,_,h,U=>ajW h
 |_,_,.cons e es,_,h,U=>.of h.1 h.2.1 (cj CO NO LR ZR e h.2.2 U).v
end
theorem cG(CO:∀U,eU (c.tF U) n)(NO:∀U,ia (c.tF U) n)(LR:hV c n)(ZR:iC c n){e:CJ}(h:TE vis nk pe e)(U:tD):ut (c.tF U) n vis nk pe e:=cj CO NO LR ZR pe h U
theorem apz(CO:∀U,eU (c.tF U) n)(NO:∀U,ia (c.tF U) n)(LR:hV c n)(ZR:iC c n){pe:ui}{e:List CJ}(h:vg vis nk pe e)(U:tD):ua (c.tF U) n vis nk pe e:=tV CO NO LR ZR pe h U
end
structure FE(c:tN)(U0:tD)(A:Around)(env:Env)(nk:aP)(n:Nat):Prop where
 kind:env.scope.kind=.function
 glob:env.globals=Dm
 blt:env.builtins=Ej
 kinds:∀x,env.kindOf x=nk.lookup x
 cls:∀x,nk.lookup x=some .cell\/nk.lookup x=some .free->∃a,env.cells.lookup x=some a
 frames:A.frames=some c.fs
 top:∃yH,c.fs=env::yH/\env.frame=some env.locals/\∀e∈yH,e.scope.kind≠.module/\∃L o,e.frame=some L/\U0 L o/\¬Ex o
 deep:A.depth+n<480
 units:A.units+60*n+100<=9000
 u3:(c.Γ.hd=false/\A.handled=none)\/(c.Γ.hd=true/\(∀k vs H,c.Γ.C k vs H=R.bad)/\∃x o vs,A.handled=some (.ref x)/\U0 x o/\o.data=.fields vs/\vs[2]?=some .none)
 off:Off true U0 env
theorem FE.es{c:tN}{n:Nat}(T:FE c U0 A env nk n)(F:FS true c.prog c.w U0 env vis ρ B μ H U h):ES (c.tF U) A env nk n 4 where
 kind:=T.kind
 glob:=T.glob
 blt:=T.blt
 Cs:=λx hx=>(T.kinds x).trans hx
 cls:=λx hx=>by obtain⟨a,ha⟩:=T.cls x hx;refine(ae a ha ?_);rw[T.kinds x];exact hx
 xO:=by
  obtain⟨yH,h1,h2,h3⟩:=(T.top);refine⟨T.frames,λe he=>?_⟩;rw[show(c.tF U).fs=c.fs from rfl,h1] at he;rcases CX.mp he with rfl |he
  ·obtain⟨o,es,ep,g1,g2,_⟩:=(F.own.dict);exact(jw (by rw[T.kind];exact λq=>(nomatch q)) _ o h2 g1 (λx=>x.elim (λ⟨vs,q⟩=>by rw[g2] at q;cases q) λzl=>o_ee zl λxs n q=>by rw[g2] at q;cases q))
  ·refine o_aeeaa (h3 e he) λh4 L o h5 h6 h7=>?_;exact(jw h4 L o h5 (F.keep _ _ h6) h7)
 deep:=T.deep
 units:=by have:=T.units;exact Nat.le_trans (Nat.le_refl _) this
 u3:=by
  rcases T.u3 with h |⟨h1,h2,x,o,vs,h3,h4,h5⟩
  ·exact .inl h
  ·exact .inr (nF h1 h2 x o vs h3 (bE (F.keep _ _ h4) h5))
def tE(c:tN)(U0:tD)(env:Env)(vis:aN)(s:CI)(B:CL)(μ:List CF)(r:R Fl)(Q:Flow->CI->Prop)(E:CE->CI->Prop):Prop:=match r with
 | .ok (.next ρ') H'=>∀B' tB U' h' t',B.StaysIn B'->Pre μ tB->FS true c.prog c.w U0 env vis ρ' B' tB H' U' h'->Q .next {s with heap:=h',toks:=t'}
 | .ok (.ret v) H'=>∀B' tB U' h' t' cv ρ',B.StaysIn B'->Pre μ tB->FS true c.prog c.w U0 env vis ρ' B' tB H' U' h'->VR B' tB v cv->Q (.ret cv) {s with heap:=h',toks:=t'}
 | .exc k H'=>∀B' tB U' h' t' e ρ',B.StaysIn B'->Pre μ tB->FS true c.prog c.w U0 env vis ρ' B' tB H' U' h'->hJ U' c.fs k B' tB h' e->E (.ref e) {s with heap:=h',toks:=t'}
 | .bad=>False
theorem tE.to{c:tN}{r r':R Fl}{Q:Flow->CI->Prop}(P:tE c U0 env vis s B μ r Q E)(h:r=r'):tE c U0 env vis s B μ r' Q E:=h▸P
theorem tE.shift{c:tN}{r:R Fl}{Q:Flow->CI->Prop}(P:tE c U0 env vis s B μ r Q E)(hB:B.StaysIn B')(tQ:Pre μ tB)(h':CL)(t':Nat):
  tE c U0 env vis {s with heap:=h',toks:=t'} B' tB r Q E:=by
 cases r with
 |ok fl H'=>
  cases fl with
  |next ρ'=>exact λvm uC wg t6 ve x y F=>P vm uC wg t6 ve (λZ Z e=>x _ _ (hB _ _ e)) (tQ.trans y) F
  |ret v=>exact λvm uC wg t6 ve cv ρ' x y F w=>P vm uC wg t6 ve cv ρ' (λZ Z e=>x _ _ (hB _ _ e)) (tQ.trans y) F w
 |exc k H'=>exact λvm uC wg t6 ve e ρ' x y F w=>P vm uC wg t6 ve e ρ' (λZ Z e=>x _ _ (hB _ _ e)) (tQ.trans y) F w
 |bad=>exact P
section
variable {c:tN}{n:Nat}
theorem cL(F:FS true c.prog c.w U0 env vis ρ B μ H U h)(G:ur c.prog c.w B):u6 (c.tF U) env vis ρ B μ H h:=⟨F.inv,F.nm,G⟩
theorem iJ{δ:Type}{Rel₁:CL->List CF->γ->δ->Prop}{r:R γ}{f:γ->AH->R Fl}{Q:Flow->CI->Prop}{Q₁:δ->CI->Prop}
  (F:FS true c.prog c.w U0 env vis ρ B μ H U s.heap) (G:ur c.prog c.w B) (P:tE c U0 env vis s B μ (r.bind f) Q E)
  (k:∀a H' B' tB (s':CI) b,r=.ok a H'->FS true c.prog c.w U0 env vis ρ B' tB H' U s'.heap->ur c.prog c.w B'->Rel₁ B' tB a b->B.StaysIn B'->Pre μ tB->tE c U0 env vis s' B' tB (f a H') Q E->Q₁ b s'):
  tj (c.tF U) s B μ Rel₁ r Q₁ E:=by
 cases r with
 |ok a H'=>exact λB' tB h' t' b x y I v=>k a H' B' tB {s with heap:=h',toks:=t'} b rfl (F.step x y I) (G.mono x) v x y (tE.shift P x y h' t')
 |exc j H'=>exact λB' tB h' t' e x y I v=>P B' tB U h' t' e ρ x y (F.step x y I) v
 |bad=>exact P
def dE(c:tN)(n:Nat)(vis:aN)(nk:aP)(ps:PS)(st:Stmt):Prop:=
 ∀(U0:tD)(A:Around)(env:Env)(ρ:aB)(B:CL)(μ:List CF)(H:AH)(U:tD)(s:CI)(Q:Flow->CI->Prop)(E:CE->CI->Prop),
  FE c U0 A env nk n->FS true c.prog c.w U0 env vis ρ B μ H U s.heap->ur c.prog c.w B->tE c U0 env vis s B μ (exec c.Γ ps ρ H) Q E->CH (CG c.prog c.w) A (EW st env) Q E s
def d9(c:tN)(n:Nat)(vis:aN)(nk:aP)(ps:tW)(st:List Stmt):Prop:=
 ∀(U0:tD)(A:Around)(env:Env)(ρ:aB)(B:CL)(μ:List CF)(H:AH)(U:tD)(s:CI)(Q:Flow->CI->Prop)(E:CE->CI->Prop),
  FE c U0 A env nk n->FS true c.prog c.w U0 env vis ρ B μ H U s.heap->ur c.prog c.w B->tE c U0 env vis s B μ (CK c.Γ ps ρ H) Q E->CH (CG c.prog c.w) A (DC st env) Q E s
end
variable {es:List CJ}
theorem jD{e:CJ}(h:TE vis nk pe e)(hn:bM e=true)(l:Nat)(env:Env)(tg:Option CJ):swapsWith e tg l env=pure false:=h.nice.swap l env tg (ajX hn)
section
variable {c:tN}{n:Nat}
def gz(c:tN)(n:Nat)(vis:aN)(nk:aP)(pe:PE)(e:CJ):Prop:=∀U,ut (c.tF U) n vis nk pe e
theorem apG{e:PE}{v:CJ}(hv:gz c n vis nk e v)(ht:TE vis nk e v)(hn:bM v=true):dE c n vis nk (.expr e) (.Expr v pos):=λU0 A env ρ B μ H U s Q E T F G P=>by
 replace P:=tE.to P E5.expr;refine JT ((hv U).v A env ρ 4 B μ H s _ E (T.es F) (cL F G) (iJ F G P λv' H' B' tB s' cv e F' G' w hB tQ P'=>?_)) ?_ (jD ht hn _ _ _)
 ·split at P'
  ·exact P' B' tB U s'.heap s'.toks (λZ Z e=>e) (Pre.refl _) F'
  ·exact P'.elim
 ·unfold interactive;rw[T.kind];rfl
theorem apM{e:PE}{v:CJ}(hv:gz c n vis nk e v):dE c n vis nk (.ret e) (.Return (some v) pos):=λU0 A env ρ B μ H U s Q E T F G P=>by replace P:=tE.to P E5.ret;refine wpAny_Return_some ((hv U).v A env ρ 4 B μ H s _ E (T.es F) (cL F G) (iJ F G P λv' H' B' tB s' cv e F' G' w hB tQ P'=>?_));exact P' B' tB U s'.heap s'.toks cv ρ (λZ Z e=>e) (Pre.refl _) F' w
theorem aey{r:R AV}{g:Bool->AH->R Fl}{Q:Flow->CI->Prop}{Q₁:Bool->CI->Prop}
  (F:FS true c.prog c.w U0 env vis ρ B μ H U s.heap) (G:ur c.prog c.w B) (P:tE c U0 env vis s B μ (r.bind λv H=>bN .bad v λb=>g b H) Q E)
  (k:∀b H' B' tB (s':CI),r=.ok (.bool b) H'->FS true c.prog c.w U0 env vis ρ B' tB H' U s'.heap->ur c.prog c.w B'->B.StaysIn B'->Pre μ tB->tE c U0 env vis s' B' tB (g b H') Q E->Q₁ b s'):
  tj (c.tF U) s B μ jO (r.bind λv H=>match v with | .bool b=>.ok (.bool b) H |_=>.bad) Q₁ E:=by
 revert P
 cases r with
 |ok v H'=>
  cases v with
  |bool b=>
   intro P B' tB h' t' b' x y I v;obtain rfl:b'=b:=by cases v;rfl
   have P':tE c U0 env vis s B μ (g b' H') Q E:=P;exact k b' H' B' tB {s with heap:=h',toks:=t'} rfl (F.step x y I) (G.mono x) x y (tE.shift P' x y h' t')
  |_=>exact λP=>P.elim
 |exc j H'=>exact λP B' tB h' t' e x y I v=>P B' tB U h' t' e ρ x y (F.step x y I) v
 |bad=>exact λP=>P.elim
theorem apI{d:PE}{a b:tW}{t:CJ}{x y:List Stmt}(hd:gz c n vis nk d t)(ha:d9 c n vis nk a x)(hb:d9 c n vis nk b y):dE c n vis nk (.ifs d a b) (.If t x y pos):=λU0 A env ρ B μ H U s Q E T F G P=>by
 replace P:=tE.to P E5.ifs;refine wpAny_If ((hd U).b A env ρ 4 B μ H s _ E (T.es F) (cL F G) (aey (g:=λz H=>if z then CK c.Γ a ρ H else CK c.Γ b ρ H) F G P λz H' B' tB s' e F' G' hB tQ P'=>?_))
 cases z with
 |true=>exact ha U0 A env ρ B' tB H' U s' Q E T F' G' P'
 |false=>exact hb U0 A env ρ B' tB H' U s' Q E T F' G' P'
theorem apK:d9 c n vis nk .nil []:=λU0 A env ρ B μ H U s Q E T F G P=>by replace P:=tE.to P E6.nil;exact Fk (P B μ U s.heap s.toks (λZ Z e=>e) (Pre.refl _) F)
theorem ael{r:R Fl}{f:aB->AH->R Fl}{Q:Flow->CI->Prop}{Q₁:Flow->CI->Prop}(G:ur c.prog c.w B)
  (P:tE c U0 env vis s B μ (r.bind λfl H=>match fl with | .next ρ=>f ρ H | .ret v=>.ok (.ret v) H) Q E)
  (k:∀ρ' H' B' tB U' (s':CI),r=.ok (.next ρ') H'->FS true c.prog c.w U0 env vis ρ' B' tB H' U' s'.heap->ur c.prog c.w B'->B.StaysIn B'->Pre μ tB->tE c U0 env vis s' B' tB (f ρ' H') Q E->Q₁ .next s')
  (k2:∀cv (s':CI),Q (.ret cv) s'->Q₁ (.ret cv) s'):tE c U0 env vis s B μ r Q₁ E:=by
 cases r with
 |ok fl H'=>
  cases fl with
  |next ρ'=>exact λB' tB U' h' t' x y F=>k ρ' H' B' tB U' {s with heap:=h',toks:=t'} rfl F (G.mono x) x y (tE.shift P x y h' t')
  |ret v=>exact λB' tB U' h' t' cv ρ' x y F w=>k2 cv _ (P B' tB U' h' t' cv ρ' x y F w)
 |exc j H'=>exact P
 |bad=>exact P
theorem apF{tz:PS}{t:Stmt}{ts:List Stmt}(h:dE c n vis nk tz t)(hs:d9 c n vis nk ss ts):d9 c n vis nk (.cons tz ss) (t::ts):=λU0 A env ρ B μ H U s Q E T F G P=>by replace P:=tE.to P E6.cons;refine Fy (h U0 A env ρ B μ H U s _ E T F G (ael G P (λρ' H' B' tB U' s' e F' G' hB tQ P'=>?_) λcv s' q=>q));exact hs U0 A env ρ' B' tB H' U' s' Q E T F' G' P'
end
theorem je{is:List Nat}(h:fK vis nk is xs=true){i:Nat}(hm:(i,x)∈is.zip xs):(i,x)∈vis/\(nk.lookup x=some .local\/nk.lookup x=some .cell):=by have:=C1.mp h _ hm;simp only[Bool.and_eq_true,EF,Df] at this;exact⟨mH this.1.1,this.2⟩
section
variable {c:tN}{n:Nat}
theorem FE.slot(T:FE c U0 A env nk n)(h:nk.lookup x=some .local\/nk.lookup x=some .cell):i7 true env x:=by
 rcases h with h |h
 ·exact .inl ((T.kinds x).trans h)
 ·obtain⟨a,ha⟩:=T.cls x (.inl h);exact .inr (iP rfl ((T.kinds x).trans h) a ha)
section
variable {v:CJ}
theorem aaT{x p}(h:v=.Name x p):bM v=true:=by subst h;rfl
theorem m6{k q p}(h:v=.Constant k q p):bM v=true:=by subst h;rfl
theorem af8{l o r p}(h:v=.BinOp l o r p):bM v=true:=by subst h;rfl
theorem cUn{o l p}(h:v=.UnaryOp o l p):bM v=true:=by subst h;rfl
theorem aaR{o l p}(h:v=.BoolOp o l p):bM v=true:=by subst h;rfl
theorem aaS{l o r p}(h:v=.Compare l o r p):bM v=true:=by subst h;rfl
theorem cIf{t l r p}(h:v=.IfExp t l r p):bM v=true:=by subst h;rfl
theorem agb{l p}(h:v=.List l p):bM v=true:=by subst h;rfl
theorem agd{l q p}(h:v=.Tuple l q p):bM v=true:=by subst h;rfl
theorem af9{k l p}(h:v=.Dict k l p):bM v=true:=by subst h;rfl
theorem aaU{l r p}(h:v=.Subscript l r p):bM v=true:=by subst h;rfl
theorem af7{l x p}(h:v=.Attribute l x p):bM v=true:=by subst h;rfl
theorem j0{l x k p}(h:v=.Call l x k p):bM v=true:=by subst h;rfl
end
theorem TE.nc:∀{pe:PE}{v:CJ},TE vis nk pe v->bM v=true\/∃elt t one it zip conds,pe=.comp elt t one it zip conds
 | .var i,_,h=>.inl (aaT h.1)
 | .glob k,_,h=>.inl (aaT h.1)
 | .tm k,_,h=>.inl (m6 h)
 | .tO k,_,h=>.inl (m6 h)
 | .tu k,_,h=>.inl (m6 h.1)
 | .un k,_,h=>.inl (m6 h)
 | .bin o a b,_,h=>.inl (af8 h.1)
 | .neg a,_,h=>.inl (cUn h.1)
 | .not a,_,h=>.inl (cUn h.1)
 | .band es,_,h=>.inl (aaR h.1)
 | .bor es,_,h=>.inl (aaR h.1)
 | .cmp a o b,_,h=>.inl (aaS h.1)
 | .uK a o b o' d,_,h=>.inl (aaS h.1)
 | .vd d a b,_,h=>.inl (cIf h.1)
 | .list es,_,h=>.inl (agb h.1)
 | .tup es,_,h=>.inl (agd h.1)
 | .uR,_,h=>.inl (af9 h)
 | .idx a i,_,h=>.inl (aaU h.1)
 | .slice a lo hi st,_,h=>.inl (aaU h.1)
 | .attr a n,_,h=>.inl (af7 h.1)
 | .comp elt t one it zip conds,_,h=>.inr (dU elt t one it zip conds rfl)
 | .call k es,_,h=>.inl (j0 h.1)
 | .new k es,_,h=>.inl (j0 h.1)
 | .bi f es,_,h=>.inl (j0 h.1)
 | .tT m o es,_,h=>.inl (j0 h.1)
 | .most o,_,h=>.inl (j0 h.1)
 | .tH i ue,_,h=>.inl (j0 h.1)
theorem TE.arI{v:CJ}(h:TE vis nk pe v)(hn:bM v=false)(hz:ph v=true):∃elt t one it conds uX tg vF tY sc p xs,pe=.comp elt t one it .nil conds/\v=.ListComp uX [⟨tg,vF,tY,0⟩] sc p/\
  cZ one tg=some xs/\ni t xs vis nk sc=true/\TE vis nk it vF/\TE (bP t xs vis sc.names) sc.names elt uX/\vg (bP t xs vis sc.names) sc.names conds tY:=by
 rcases h.nc with q |⟨elt,t,one,it,zip,conds,rfl⟩
 ·rw[q] at hn;cases hn
 ·cases zip with
  |nil=>exact(dU elt t one it conds _ (dU _ _ _ _ _ _ (dy rfl h.1 h.2.1 h.2.2.1 h.2.2.2.2.2 h.2.2.2.1 h.2.2.2.2.1)))
  |cons xN es=>
   have z:=h.2.2.2.2.2.2.1;have ht:(view v).tag=15:=(CN (λv=>(view v).tag) h.1).trans rfl
   have A8:(!((view v).tag==15&&dO "zip" (view (gen (view v).gs).iter).a))=true:=hz
   rw[ht,z] at A8;cases A8
theorem apC{i:Nat}{e:PE}{v:CJ}(CO:∀U,eU (c.tF U) n)(NO:∀U,ia (c.tF U) n)(LR:hV c n)(ZR:iC c n)(uz:bQ vis=true)
  (hz:fK vis nk [i] [x]=true) (hzf:ph v=true) (ht:TE vis nk e v):dE c n vis nk (.assign (.var i) e) (.Assign [.Name x p] v pos):=λU0 A env ρ B μ H U s Q E T F G P=>by
 replace P:=tE.to P E5.assign;obtain⟨h1,h2⟩:=je hz (show(i,x)∈[i].zip [x] from G9 _);have arX:=T.slot h2;have plain:swapsWith v (some (.Name x p)) pos.line env=pure false->CH (CG c.prog c.w) A (EW (.Assign [.Name x p] v pos) env) Q E s:=by intro hs;rw[MG _ _ _ _ _ hs];refine wpAny_bind (DT (wpAny_bind ((cG CO NO LR ZR ht U).v A env ρ 4 B μ H s _ E (T.es F) (cL F G) (iJ F G P λv' H' B' tB s' cv e F' G' w hB tQ P'=>?_))));refine wpAny_bind (DT (wpAny_bind (IC (jL F' T.off uz T.kind h1 arX w.xv λh' U' t' F2 Z=>wpAny_pure ?_))));exact P' B' tB U' h' t' (λZ Z e=>e) (Pre.refl _) F2
 cases hn:bM v with
 |true=>exact plain (jD ht hn _ _ _)
 |false=>
  (refine o_eeeeee (ht.arI hn hzf) λelt t one it conds uX=>r_eeeeee λtg vF tY sc asf xs=>r_aaaaaa λzq12 zq13 hx hfc hi he hc=>?_;subst zq12;clear hzf hn ht;subst zq13);obtain⟨hl,uM,hk,hf1,hf2⟩:=gJ hfc
  ·skip
   have zZ:∃b,swapsWith (.ListComp uX [⟨tg,vF,tY,0⟩] sc asf) (some (.Name x p)) pos.line env=pure b:=⟨_,rfl⟩;obtain⟨b,zZ⟩:=zZ
   cases b with
   |false=>exact plain zZ
   |true=>
    rw[exec_Assign_Name_used _ _ _ _ zZ];refine wpAny_bind (DT (wpAny_bind ?_));show CH _ A (do let _<-comprehension (.ListComp uX [⟨tg,vF,tY,0⟩] sc asf) sc env _ (newList []) false (eval vF env) (some (assign (.Name x p) env))) _ _ s
    refine wpAny_bind (abp (c:=c.tF U) (use:=some (assign (.Name x p) env)) (Q:=λZ s'=>CH (CG c.prog c.w) A (pure ()) (λZ s'=>CH (CG c.prog c.w) A (pure Flow.next) Q E s') E s') (Q₁:=λZ sx=>∃h t,sx={s with heap:=h,toks:=t}) (cG CO NO LR ZR hi U).v hi (cG CO NO LR ZR he) (apz CO NO LR ZR hc) (T.es F) hx hl uM (ro hk) hf1 hf2 (cL F G)
     ?_ ?_)
    ·revert P;show tE c U0 env vis s B μ ((ev c.Γ (.comp elt t one it .nil conds) 4 ρ H).bind _) Q E->tj (c.tF U) s B μ VR (ev c.Γ (.comp elt t one it .nil conds) 4 ρ H) _ E
     cases ev c.Γ (.comp elt t one it .nil conds) 4 ρ H with
     |ok a H'=>exact λZ B' tB h' t' b x y I v=>(cK _ _ rfl)
     |exc j H'=>exact λP B' tB h' t' e x y I v=>P B' tB U h' t' e ρ x y (F.step x y I) v
     |bad=>exact λP=>P
    intro D C s2 B2 vN H2 v' zW u5 uk I2 w zA fC wE;replace zW:ev c.Γ (.comp elt t one it .nil conds) 4 ρ H=.ok v' H2:=zW;rw[zW] at P;replace P:∀B' tB U' h' t',B.StaysIn B'->Pre μ tB->FS true c.prog c.w U0 env vis (ρ.set i v') B' tB H2 U' h'->Q .next {s with heap:=h',toks:=t'}:=P;obtain⟨h0,t0,Bv⟩:=wE s2.heap (Nk _ _);obtain⟨hh2,g2,d2,tk2,os2⟩:=s2;simp only[CI.mk.injEq] at Bv;(revert Bv;refine r_aaaa λZ zq1 zq2 Z zq4=>?_;subst zq1;subst zq2;clear wE;subst zq4);have F2:FS true c.prog c.w U0 env vis ρ B2 vN H2 U hh2:=F.step u5 uk I2;show CH _ A (assign (.Name x p) env (.ref D)) _ _ _;refine JU (jL F2 T.off uz T.kind h1 arX w.xv λh' U' t' F3 hw=>?_);obtain⟨a,pa,o',hUa,hs,hU'⟩:=hw;have hCa:C≠a:=λe=>fC.2.2 pa (e▸hUa);obtain⟨m,oC,es,ep,eC,r⟩:=zA;refine(ae m (gc oC es ep (hs C oC hCa eC) r) (λBF att=>wpAny_pure (wpAny_pure ?_)));have atD:∀p,¬U' C p:=λp hp=>by rw[hU'] at hp;exact fC.2.2 p (hp.resolve_right λq=>hCa q.1).2
    exact P B2 vN U' BF t' u5 uk ⟨F3.inv.but att.extBut fC.1 fC.2.1 atD,F3.nm,F3.own,F3.keep⟩
end
section
variable {c:tN}{n:Nat}{Q:Unit->CI->Prop}
theorem apo{l:CF}{nn:Nat}{k:Int}{v:CE}(ho:s.heap.get? l=some {cls:=.type "list",data:=.seq (Dg tA) nn})(h0:0<=k)(asE:k<2^63)(hn:k<tA.length)
  (hQ:∀h' n',h'.get? l=some {cls:=.type "list",data:=.seq (Dg (tA.set k.toNat v)) n'}->DF l s.heap h'->Q () {s with heap:=h'}):
  CH (CG c.prog c.w) A (setItem (.ref l) (.int k t) v) Q E s:=by
 have hl:=cH ho;have hj:k.toNat<tA.toArray.size:=by rw[Dk];exact(GZ h0).mpr hn
 have e:=Eu (GP (·.setIfInBounds k.toNat v)) ho rfl;have fin:=hQ _ _ (by
  refine e.trans ?_
  show some ({cls:=.type "list",data:=.seq (tA.toArray.setIfInBounds k.toNat v) _}:Obj)=_
  rw[show tA.toArray.setIfInBounds k.toNat v=(tA.set k.toNat v).toArray by simp]) (Gy ..).extBut
 have AZ:=fitsIndex_of h0 asE;clear asE hn hQ e;unfold setItem;refine DB (wpAny_bind (wpAny_sequenceKey hl.typeIs (by decide) ?_))
 refine wpAny_bind (MU (name:=Ei "__setitem__") hl.typeIs MQ
  (ID MQ hl.typeIs entry_list_setitem ?_ (args_list_setitem _ _ _)))
 show CH _ _ (Nc (.int k t)>>=_) _ _ s;refine wpAny_bind (wpAny_listSubscript_int AZ ?_);clear AZ;obtain⟨j,rfl⟩:=GV h0;rw[DW] at hj;simp only[DW] at fin;show CH _ _ ((seqItemAt l j>>=λr=>pure (r.map (j,·)))>>=_) _ _ s;refine wpAny_bind (wpAny_bind (wpAny_seqItemAt ho rfl (wpAny_pure ?_)));rw[J6 hj];show CH _ _ (setSeqItemAt l j v>>=_) _ _ s;refine wpAny_bind (wpAny_setSeqItemAt ho rfl ?_)
 first
  |exact wpAny_bind (wpAny_pure (wpAny_pure (ae (.none) rfl (wpAny_pure fin))))
  |exact wpAny_pure ⟨.none,rfl,wpAny_pure fin⟩
theorem tK.set(hv:VR B μ v cv){i:Nat}(hs:tK B μ vs cs):tK B μ (vs.set i v) (cs.set i cv):=by
 induction vs generalizing cs i with
 |nil=>rw[hs.n];exact .nil
 |cons a vs ih=>
  obtain⟨_,_,e,h,hs⟩:=hs.c;rw[e]
  cases i with
  |zero=>exact .cons hv hs
  |succ i=>exact .cons h (ih hs)
theorem apb(I:Inv c.prog c.w B U μ H s.heap)(G:ur c.prog c.w B){x:AV}(vx:VR B μ x cx)(vy:VR B μ y cy)(vv:VR B μ v cv)(h:gZ H x y v=some H')
  (hq:∀h' t',Inv c.prog c.w B U μ H' h'->Q () {s with heap:=h',toks:=t'}):CH (CG c.prog c.w) A (setItem cx cy cv) Q E s:=by
 unfold gZ at h;replace h:=um.oI h;rcases h with⟨i,rfl,h⟩ |h
 ·replace h:=um.pL h;obtain⟨p,xs,rfl,hp,h⟩:=h;replace h:=um.pQ h;obtain⟨hi,h⟩:=h;cases h;(obtain⟨a,zq1,ha⟩:=(vx.r);clear vx;subst zq1);obtain⟨t,rfl⟩:=vy.i;obtain⟨tA,nn,h1,h2,h3⟩:=I.list ha hp;have hl:=h2.length;rw[dN] at h3;exact apo h1 hi.1 (by omega) (hl▸hi.2) λh' n' e hs=>hq h' s.toks (I.upd ha hs e (ax _ n' rfl (tK.set vv h2) (by rw[Jn,dN];exact h3)) (jC rfl))
 ·replace h:=um.pY h;obtain⟨k,rfl,h⟩:=h;replace h:=um.pD h;obtain⟨p,es,rfl,hp,h⟩:=h
  split at h
  ·cases h
  ·rename_i hn
   cases h;(obtain⟨a,zq1,ha⟩:=(vx.r);clear vx;subst zq1);(obtain⟨t,zq1,hs⟩:=(vy.y);clear vy;subst zq1);obtain⟨kvs,h1,h2,h3,h4⟩:=I.dict ha hp;simp only[EF,C9,Fx,Kb] at hn;have hlen:kvs.length=es.length:=by have:=CN DO h2;simpa using this
   have ato:kvs.any (λkv=>kv.1=k)=false:=by have e1:=mD (k:=k) h2;rw[hn.1] at e1;rw[Ia];intro kv hm hk;unfold valueAt at e1;have:(kvs.find? λe=>decide (e.1=k)).isSome=true:=List.find?_isSome.mpr (ae kv hm hk);obtain⟨z,hz⟩:=FR.mp this;simp[hz] at e1
   refine wpAny_setItem_pairs (lZ _ _) h1 (λh' hd hs=>hq h' _ ?_) (by rw[fG];omega);obtain⟨o',eo,ho⟩:=IS.mp hd;have y4:stored kvs k cv=kvs++[(k,cv)]:=by unfold stored;rw[ato];rfl
   rw[y4] at ho;refine I.upd ha hs.extBut eo (cY (kvs++[(k,cv)]) ho (by simp[h2]) (by rw[Dx,Dx];exact h3.append (.cons vv .nil)) (by rw[List.length_append];simp;omega)) ?_;rintro⟨vs,q⟩;obtain⟨Am,ep,_,q2,_⟩:=ho;rw[q2] at q;cases q
theorem apD{a i e:PE}{r v:CJ}(ha:gz c n vis nk a l)(hi:gz c n vis nk i r)(he:gz c n vis nk e v)(ht:TE vis nk e v)(hn:bM v=true):
  dE c n vis nk (.assign (.sub a i) e) (.Assign [.Subscript l r p] v pos):=λU0 A env ρ B μ H U s Q E T F G P=>by
 replace P:=tE.to P E5.assign;refine wpAny_Assign_Subscript ((he U).v A env ρ 4 B μ H s _ E (T.es F) (cL F G) (iJ F G P λv' H' B' tB s' cv e F' G' w hB tQ P'=>?_)) (jD ht hn _ _ _);refine(ha U).v A env ρ 4 B' tB H' s' _ E (T.es F') (cL F' G') (iJ F' G' P' λx H2 B2 vN s2 cx e2 F2 G2 w2 u5 uk P2=>?_);refine(hi U).v A env ρ 4 B2 vN H2 s2 _ E (T.es F2) (cL F2 G2) (iJ F2 G2 P2 λy H3 B3 za s3 cy e3 F3 G3 w3 vZ uY P3=>?_)
 cases q:gZ H3 x y v' with
 |none=>rw[q] at P3;exact P3.elim
 |some H4=>rw[q] at P3;refine apb F3.inv G3 (w2.mono vZ uY) w3 ((w.mono u5 uk).mono vZ uY) q λh' t' I=>?_;exact P3 B3 za U h' t' (λZ Z e=>e) (Pre.refl _) ⟨I,F3.nm,F3.own,F3.keep⟩
theorem sA:∀{is:List Nat}{vs:List AV}{ρ ρ':aB},dA is vs ρ=some ρ'->is.length=vs.length/\ρ'=(is.zip vs).foldl (λr p=>r.set p.1 p.2) ρ
 |[],[],ρ,ρ',h=>by cases h;exact⟨rfl,rfl⟩
 |[],_::_,_,_,h=>by cases h
 |_::_,[],_,_,h=>by cases h
 |i::is,v::vs,ρ,ρ',h=>by obtain⟨h1,h2⟩:=sA (show dA is vs (ρ.set i v)=some ρ' from h);exact⟨CN (·+1) h1,h2⟩
theorem ad5:∀{is:List Nat}{vs:List AV}{ρ:aB},is.length=vs.length->dA is vs ρ=some ((is.zip vs).foldl (λr p=>r.set p.1 p.2) ρ)
 |[],[],_,_=>rfl
 |[],_::_,_,h=>by cases h
 |_::_,[],_,h=>by cases h
 |i::is,v::vs,ρ,h=>ad5 (is:=is) (vs:=vs) (ρ:=ρ.set i v) (by simpa using h)
theorem ahG:∀{ps:List (Nat×AV)}{ρ:aB}{i:Nat}{v:AV},i∉ps.map (·.1)->ps.foldl (λr p=>r.set p.1 p.2) (ρ.set i v)=(ps.foldl (λr p=>r.set p.1 p.2) ρ).set i v:=by
 intro zi
 induction zi with
 |nil=>
 exact @λZ Z Z Z=>rfl
 |cons zp ps ih=>
 obtain⟨j,w⟩:=zp;exact @λρ i v h=>by simp only[DY,CX,Fx] at h;rw[ER,ER,Ln _ _ h.1];exact ih h.2
theorem ahH:∀{ps:List (Nat×AV)}{ρ:aB},(ps.map (·.1)).Nodup->ps.reverse.foldl (λr p=>r.set p.1 p.2) ρ=ps.foldl (λr p=>r.set p.1 p.2) ρ:=by
 intro zi
 induction zi with
 |nil=>
 exact @λZ Z=>rfl
 |cons zp ps ih=>
 obtain⟨i,v⟩:=zp;exact @λρ h=>by obtain⟨h1,h2⟩:=Ge.mp h;rw[GF,K8,ER,List.foldl_nil,ER];dsimp only;rw[ih h2,ahG h1]
theorem aeS{α β:Type}:∀{xs:List α}{ys:List β}{x:α}{y:β},xs.length=ys.length->(xs++[x]).zip (ys++[y])=xs.zip ys++[(x,y)]
 |[],[],_,_,_=>rfl
 |[],_::_,_,_,h=>by cases h
 |_::_,[],_,_,h=>by cases h
 |a::xs,b::ys,x,y,h=>CN (List.cons (a,b)) (aeS (xs:=xs) (ys:=ys) (by simpa using h))
theorem si{α β:Type}:∀{xs:List α}{ys:List β},xs.length=ys.length->(xs.zip ys).reverse=xs.reverse.zip ys.reverse
 |[],[],_=>rfl
 |[],_::_,h=>by cases h
 |_::_,[],h=>by cases h
 |a::xs,b::ys,h=>by
  have h':xs.length=ys.length:=by simpa using h
  rw[Ls,GF,GF,GF,aeS (by simpa using h'),si h']
theorem apm{is:List Nat}(hn:is.Nodup)(h:dA is vs ρ=some ρ'):dA is.reverse vs.reverse ρ=some ρ':=by obtain⟨h1,h2⟩:=sA h;rw[ad5 (by simpa using h1),h2,<-si h1,ahH (by rw[Gc (C5 h1)];exact hn)]
end
theorem ahv(f:α->Option β)(l:List α):(l.filterMap f).length<=l.length:=List.length_filterMap_le f l
theorem ajN{f:CJ->Option Str}(hf:∀x p y,f (.Name x p)=some y->y=x):∀{es:List CJ}{xs:List Str},es.mapM dP=some xs->(es.filterMap f).length=es.length->es.filterMap f=xs:=by
 intro zi
 induction zi with
 |nil=>
 exact @λxs h Z=>by cases h;rfl
 |cons e es ih=>
 exact @λxs h hl=>by
  (obtain⟨x,p,ys,zq3,h1,zq5⟩:=nY h;subst zq3;clear h;subst zq5);have:=ahv f es
  cases q:f (.Name x p) with
  |none=>rw[List.filterMap_cons_none q] at hl;simp -iota at hl;exact(al8 hl this).elim
  |some y=>rw[K0 q] at hl⊢;rw[hf _ _ _ q,ih h1 (by simpa using hl)]
theorem nS{α:Sort _}{c:Prop}[Decidable c]{x y b:α}(h:¬c->b=x\/b=y):(if c then x else b)=x\/(if c then x else b)=y:=if e:c then .inl (CM e) else by rw[CQ e];exact h e
theorem ap4{v:CJ}(hx:es.mapM dP=some xs)(hf:o9 v=true)(env:Env):
  swappedStores [.Tuple es k p] v env=pure none\/swappedStores [.Tuple es k p] v env=pure (some xs):=by
 delta swappedStores
 cases v with
 |Tuple vs k' p'=>have hf:(!vs.all (constantsAlone 8)||vs.all (foldedForSure 8))=true:=hf;dsimp only;refine nS λZ=>nS λZ=>nS λh3=>nS λh4=>?_;rw[CQ (by intro q;rw[q] at hf;simp -iota at hf;exact h4 (C1.mpr hf))];refine .inr ?_;simp -iota only[EF,Fx,Fh,ne_eq,Decidable.not_not] at h3;show pure (some _)=pure (some _);rw(occs:=.all) [ajN (f:=_) ?_ hx h3.1];exact λx p y h=>(C6 (Option.ite_none_right_eq_some.mp h).2).symm
 |_=>exact .inl rfl
theorem tK.rev(hs:tK B μ vs cs):tK B μ vs.reverse cs.reverse:=by
 induction vs generalizing cs with
 |nil=>rw[hs.n];exact .nil
 |cons a vs ih=>obtain⟨_,_,e,h,hs⟩:=hs.c;rw[e,GF,GF];exact(ih hs).append (.cons h .nil)
section
variable {c:tN}
theorem afO:∀{t:List Nat}{vs:List AV}{tA:List CE}{xs:List Str}{ρ:aB}{U:tD}{s:CI}{Q:Unit->CI->Prop},t.length=xs.length->dA t vs ρ=some ρ'->tK B μ vs tA->
  FS oc c.prog c.w U0 env vis ρ B μ H U s.heap->Off oc U0 env->bQ vis=true->env.scope.kind=.function->(∀i x,(i,x)∈t.zip xs->(i,x)∈vis/\i7 oc env x)->
  (∀h' U' t',FS oc c.prog c.w U0 env vis ρ' B μ H U' h'->Q () {s with heap:=h',toks:=t'})->CH (CG c.prog c.w) A (assignInOrder (xs.map λn=>bindName env n) tA) Q E s:=by
 intro zi
 induction zi with
 |nil=>
 exact @λvs tA xs ρ U s Q hl hs hv F of ok hk hz h=>by
  have:xs=[]:=GC.mp hl.symm;clear hl hz;subst this
  cases vs with
  |nil=>cases hs;cases hv;exact wpAny_pure (h _ _ _ F)
  |cons v vs=>cases hs
 |cons i t ih=>
 exact @λvs tA xs ρ U s Q hl hs hv F of ok hk hz h=>by
  cases vs with
  |nil=>cases hs
  |cons v vs=>
   obtain⟨cv1,tA,e,zm,yK⟩:=(hv.c);clear hv;subst e
   cases xs with
   |nil=>cases hl
   |cons x xs=>obtain⟨h1,h2⟩:=hz i x (by simp);show CH _ _ (assignInOrder (bindName env x::xs.map λn=>bindName env n) _) _ _ _;refine MS (IC (jL F of ok hk h1 h2 zm.xv λh' U' t' F' Z=>?_));exact ih (vs:=vs) (s:={s with heap:=h',toks:=t'}) (by simpa using hl) hs yK F' of ok hk (λj y hm=>hz j y (by simp -iota [hm])) h
end
section
variable {c:tN}{n:Nat}
theorem apE{is:List Nat}{e:PE}{v:CJ}(hv:gz c n vis nk e v)(ht:TE vis nk e v)(hn:bM v=true)(hsf:o9 v=true)(uz:bQ vis=true)
  (hx:es.mapM dP=some xs) (hl:is.length=xs.length) (yb:fK vis nk is xs=true) (u3:is.Nodup):dE c n vis nk (.assign (.tup is) e) (.Assign [.Tuple es k p] v pos):=λU0 A env ρ B μ H U s Q E T F G P=>by
 replace P:=tE.to P E5.assign;rw[Nn];refine wpAny_bind (DT ?_);have zZ:swapsWith v (some (.Tuple es k p)) pos.line env=pure false:=jD ht hn _ _ _;rw[show swapsWithSole [.Tuple es k p] v pos.line env=pure false from zZ];refine wpAny_bind (wpAny_pure ?_);rw[CQ (by decide)];refine wpAny_bind ((hv U).v A env ρ 4 B μ H s _ E (T.es F) (cL F G) (iJ F G P λv' H' B' tB s' cv e F' G' w hB tQ P'=>?_));dsimp only at P'
 cases vU:c.Γ.hd with
 |true=>rw[vU] at P';exact P'.elim
 |false=>
  have hh:A.handled=none:=by
   rcases T.u3 with⟨_,h⟩ |⟨h,_⟩
   ·exact h
   ·rw[vU] at h;cases h
  rw[vU] at P';simp -iota only[Fn,Fj] at P'
  cases q:bz H' is false v' ρ with
  |none=>rw[q] at P';exact P'.elim
  |some ρ'=>
   rw[q] at P';have hz:∀i x,(i,x)∈is.zip xs->(i,x)∈vis/\i7 true env x:=λi x hm=>⟨(je yb hm).1,T.slot (je yb hm).2⟩;rcases ap4 (k:=k) (p:=p) hx hsf env with q2 |q2
   ·rw[q2];refine wpAny_bind (wpAny_pure ?_);show CH _ A (do assignAll cv [assign (.Tuple es k p) env];pure .next) Q E s'
    refine wpAny_bind (C7 (uG (Q:=λZ=>Q .next) false (.inr hh) (tg:=.Tuple es k p) hx hl q w F' T.off uz T.kind hz λh' U' t' F2=>?_) (λZ Z x=>wpAny_pure x) λZ Z x=>x);exact P' B' tB U' h' t' (λZ Z e=>e) (Pre.refl _) F2
   ·rw[q2];refine wpAny_bind (wpAny_pure ?_)
    show CH _ A (do rule "assign.swapped-stores";let items<-unpackItems cv xs.length none;assignInOrder (xs.reverse.map λn=>bindName env n) items.reverse;pure .next) Q E s'
    unfold bz at q;dsimp only at q
    cases qi:jA H' v' with
    |none=>rw[qi] at q;cases q
    |some vs=>
     rw[qi] at q;have q:dA is vs ρ=some ρ':=q;have hlen:=(sA q).1;refine wpAny_bind (HJ (wpAny_bind (aeI (c:=c) (U:=U) hh F'.inv w qi (ama hl hlen) λtA h' t' yK I2=>?_)));refine wpAny_bind (afO (c:=c) (t:=is.reverse) (vs:=vs.reverse) (s:={s' with heap:=h',toks:=t'}) (by simpa using hl) (apm u3 q) yK.rev (F'.step (λZ Z e=>e) (Pre.refl _) I2) T.off uz T.kind (λi x hm=>?_) λh2 U' t2 F2=>wpAny_pure ?_)
     ·rw[<-si hl] at hm;exact hz i x (List.mem_reverse.mp hm)
     ·exact P' B' tB U' h2 t2 (λZ Z e=>e) (Pre.refl _) F2
end
theorem Inv.slots{base:CL}(I:Inv prog w B U μ H h)(b1:B.StaysIn base)(b2:∀a∈μ,∀o,h.get? a=some o->base.get? a=some o)
  (b3:∀a o,U a o->Ex o->base.get? a=some o) (b4:base.StaysIn h') (up:h.UpToSlots h'):Inv prog w B U μ H h' where
 base:=λb o e=>b4 b o (b1 b o e)
 us:=λa o hu=>by
  refine o_aaea (I.us a o hu) λh1 h2 sl h3 h4=>?_
  by_cases hx:Ex o
  ·exact(fu h1 h2 o.slots (b4 _ _ (b3 a o hu hx)) (λZ=>rfl))
  ·obtain⟨Cx,h5⟩:=up a _ h3 λvs q=>hx (.inl ⟨vs,q⟩);exact(fu h1 h2 Cx h5 (λq=>(hx q).elim))
 nodup:=I.nodup
 fresh:=I.fresh
 len:=I.len
 objs:=λi a o x y=>by obtain⟨ob,h1,h2⟩:=I.objs i a o x y;exact(ae ob (b4 _ _ (b2 a (Eg.mpr ⟨i,x⟩) ob h1)) h2)
def mJ(base:CL)(h:CL)(e:CF)(cls:CE)(fl:CE)(v2:Option CE):Prop:=∃oe vs T oT ts,h.get? e=some oe/\oe.cls=cls/\oe.data=.fields vs/\vs[2]?=v2/\vs[1]?=some (.ref T)/\base.get? T=none/\T≠e/\h.get? T=some oT/\oT.data=.fields ts/\ts[3]?=some fl
section
theorem abK{base:CL}{e:CF}{vs:Array CE}{head:CE}{arJ:Bool}{Q:Unit->CI->Prop}
  (xF:A.frames=some (env::outer)) (hl:s.heap.FunFrames base (env::outer)) (hf:env.frame=some L)
  (he:s.heap.get? e=some oe) (Aw:base.StaysIn s.heap) (AY:base.get? e=none) (hd:oe.data=.fields vs) (uc:1<vs.size)
  (h:∀h',base.StaysIn h'->h'.FunFrames base (env::outer)->mJ base h' e oe.cls (Dr L) vs[2]?->s.heap.UpToSlots h'->Q () {s with heap:=h'}):
  CH M A (do let a<-frameOf env;let pl<-entryPlaceOf L arJ;let b<-Kl head a .none (Dr L) .none pl;setField (.ref e) 1 b) Q E s:=by
 have atf:e∉(env::outer).filterMap (·.frame):=λhm=>by refine o_aea (hl.mem hm) λZ o ho wC=>?_;rw[he] at ho;injection ho with ho;subst ho;exact wC vs hd
 refine wpAny_bind (wpAny_frameOf_fun xF hl hf λtC xM=>?_);refine wpAny_bind (wpAny_entryPlaceOf λpl yy=>?_);unfold Kl newFields;refine wpAny_bind (IE ?_ (yy.sizeOk5 _ _ _ _ _));have asi:tC.get? e=some oe:=(xM.2.1 e atf).trans he;have k₁:base.StaysIn tC:=λb o yo=>(xM.2.1 b λhm=>by rw[(hl.mem hm).1] at yo;cases yo).trans (Aw b o yo)
 refine cX (({cls:=.type "traceback",dict:=none,data:=.fields ([head,.ref L,.none,Dr L,.none]++(if pl.isEmpty then CR 6 Do else pl)).toArray}:Obj)) λnw atn=>?_
 have u3:nw.data=.fields ([head,.ref L,.none,Dr L,.none]++(if pl.isEmpty then CR 6 Do else pl)).toArray:=by rw[<-atn]
 have asj:(tC.push nw).get? e=some oe:=Dc nw asi;have as4:(tC.push nw).get? tC.objs.size=some nw:=DG tC (Ht u3);refine Go asj hd uc (h _ ?_ ?_ ?_ ?_)
 all_goals
  have Au:tC.objs.size≠e:=C2 (Dh asi);have keep:∀b o,b≠e->tC.get? b=some o->((tC.push nw).update e (FP (·.setIfInBounds 1 (Dp tC.objs.size)))).get? b=some o:=λb o BN hb=>by rw[Ek _ _ (Du BN)];exact Dc _ hb
  have uI:∀b o,s.heap.get? b=some o->(∀vs,o.data≠.fields vs)->b≠e:=λb o hb wC q=>by rw[q,he] at hb;injection hb with hb;subst hb;exact wC vs hd
 ·exact λb o yo=>keep b o (λq=>by rw[q,AY] at yo;cases yo) (k₁ b o yo)
 ·exact hl.of_keeps λb o hb wC=>by obtain⟨sl,hs⟩:=xM.2.2 b o hb;exact(ae _ (keep b _ (uI b o hb wC) hs) rfl)
 ·have arU:=Gi hd (·.setIfInBounds 1 (Dp tC.objs.size));refine(iR _ _ tC.objs.size nw _ (Eu _ asj (Ht arU)) (dy (Obj.cls_mapFields _ _) arU ?_ (by simp[uc]) k₁.fresh Au (bT ?_ u3 ?_)))
  ·rw[Array.getElem?_setIfInBounds_ne (by decide)]
  ·rw[Ek _ _ (Du Au)];exact as4
  ·first |(simp;done) |(rcases yy with rfl |⟨_,_,_,_,_,_,_,rfl⟩<;>simp)
 ·exact λb o hb wC=>by obtain⟨sl,hs⟩:=xM.2.2 b o hb;exact⟨sl,keep b _ (uI b o hb wC) hs⟩
theorem aj0{base:CL}{e:CF}{vs:Array CE}{Q:Unit->CI->Prop}
  (xF:A.frames=some (env::outer)) (hl:s.heap.FunFrames base (env::outer)) (hf:env.frame=some L) (he:s.heap.get? e=some oe) (Aw:base.StaysIn s.heap) (AY:base.get? e=none) (hd:oe.data=.fields vs)
  (h1:vs[1]?=some .none\/∃T oT ts fl,vs[1]?=some (.ref T)/\base.get? T=none/\T≠e/\s.heap.get? T=some oT/\oT.data=.fields ts/\ts[3]?=some fl/\(fl=.none\/∃yO L',(env::outer).head? =some yO/\yO.frame=some L'/\fl=Dr L'))
  (h:∀h',base.StaysIn h'->h'.FunFrames base (env::outer)->mJ base h' e oe.cls (Dr L) vs[2]?->s.heap.UpToSlots h'->Q () {s with heap:=h'}):CH M A (noteFrame (.ref e) env) Q E s:=by
 unfold noteFrame;simp only[hf];rcases h1 with h1 |⟨T,oT,ts,fl,h1,hnT,Au,hT,AX,h3,A0⟩
 ·refine wpAny_bind (EP he hd h1 ?_);rw[CQ (by decide)];exact abK xF hl hf he Aw AY hd (Gp.mp h1).1 h
 ·refine wpAny_bind (EP he hd h1 ?_);rw[CM (show(Dp T !=Do)=true from by simp)];refine wpAny_bind (EP hT AX h3 ?_);rcases A0 with rfl |⟨yO,L',q1,q2,rfl⟩
  ·rw[CQ (show ¬((Do==Dr L)=true) from by simp[Dr])];refine wpAny_bind (Go hT AX (Gp.mp h3).1 ?_);have other:∀b,b≠T->(s.heap.update T (FP (·.setIfInBounds 3 Do))).get? b=s.heap.get? b:=λb hb=>Ek _ _ (Du hb);have uI:∀b o,s.heap.get? b=some o->(∀vs,o.data≠.fields vs)->b≠T:=λb o hb wC q=>by
    rw[q,hT] at hb;injection hb with hb;subst hb;exact wC ts AX
   exact abK xF (hl.of_keeps λb o hb wC=>(ae o ((other b (uI b o hb wC)).trans hb) rfl)) hf ((other e (Du Au)).trans he)
    (λb o yo=>(other b λq=>by rw[q,hnT] at yo;cases yo).trans (Aw b o yo)) AY hd (Gp.mp h1).1
    λh' x1 x2 x3 x4=>h h' x1 x2 x3 λb o hb wC=>x4 b o ((other b (uI b o hb wC)).trans hb) wC
  ·obtain rfl:env=yO:=by simpa using q1
   rw[hf] at q2;cases q2;rw[CM (show(Dr L==Dr L)=true from by simp)];exact wpAny_pure (h _ Aw hl (iR oe vs T oT ts he (dy rfl hd rfl h1 hnT Au (bT hT AX h3))) (.refl _))
end
section
variable {c:tN}
def vG(U:tD)(fs:List Env)(k:Nat)(B:CL)(μ:List CF)(h:CL)(e:CF)(L:CF):Prop:=
 ∃base:CL,B.StaysIn base/\(∀a∈μ,∀o,h.get? a=some o->base.get? a=some o)/\(∀a o,U a o->Ex o->base.get? a=some o)/\base.StaysIn h/\base.get? e=none/\h.FunFrames base fs/\
  mJ base h e (.ref (aT k)) (Dr L) (some .none)
theorem vG.exc{fs:List Env}{e:CF}(x:vG U fs k B μ h e L)(A1:fs=env::outer)(hf:env.frame=some L):hJ U fs k B μ h e:=by(revert x;refine r_eaaaaa λbase b1 b2 b3 b4 b5=>r_aeeeee λb6 oe vs T oT ts=>r_aaaaaa λg1 g2 g3 g4 g5 g6=>r_aaa λg7 g8 g9 yI=>?_);exact(gb base b1 b2 b3 b4 b5 (eH b6 oe vs g1 g2 g3 (bE (.inr (ef T oT ts _ g5 g6 (gM g7 g8 g9 yI (.inr (ax env L (by rw[A1];rfl) hf rfl))))) g4)))
theorem om{e:CF}{Q:Unit->CI->Prop}(xF:A.frames=some c.fs)(A1:c.fs=env::outer)(hf:env.frame=some L)(I:Inv c.prog c.w B U μ H s.heap)(X:hJ U c.fs k B μ s.heap e)
  (h:∀h',Inv c.prog c.w B U μ H h'->vG U c.fs k B μ h' e L->Q () {s with heap:=h'}):CH (CG c.prog c.w) A (noteFrame (.ref e) env) Q E s:=by
 (revert X;refine r_eaaaaa λbase b1 b2 b3 b4 b5=>r_aeeaaa λb6 oe vs g1 g2 g3=>r_a λg4 g5=>?_);rw[A1] at xF b6 g4;refine aj0 xF b6 hf g1 b4 b5 g3 (g4.imp id λzl=>o_eeeeaa zl λT oT ts fl q1 q2=>r_aaaa λq3 q4 q5 q6 q7=>(ef T oT ts fl q1 q2 (gM q3 q4 q5 q6 q7))) λh' x1 x2 x3 x4=>?_;refine h h' (I.slots b1 b2 b3 x1 x4) (gb base b1 (λa ha o e=>?_) b3 x1 b5 (bE (by rw[A1];exact x2) ?_))
 ·obtain⟨i,hi⟩:=Eg.mp ha;have hl:i<H.length:=I.len▸(List.getElem?_eq_some_iff.mp hi).1;obtain⟨ob,wQ,_⟩:=I.objs i a H[i] hi (List.getElem?_eq_getElem hl);have:=b2 a ha ob wQ;have:=x1 _ _ this;rw[e] at this;cases this;exact b2 a ha _ wQ
 ·rw[g2,g5] at x3;exact x3
end
section
variable {c:tN}
theorem aa0{e:CF}(hf:env.frame=some L)(I:Inv c.prog c.w B U μ H s.heap)(X:vG U c.fs k B μ s.heap e L)
  (h:∀h',Inv c.prog c.w B U μ H h'->vG U c.fs k B μ h' e L->E (.ref e) {s with heap:=h'}):cameBackBy (CG c.prog c.w) A env E (.ref e) s:=by
 (revert X;refine r_eaaaaa λbase b1 b2 b3 b4 b5=>r_aeeeee λb6 oe vs T oT ts=>r_aaaaaa λg1 g2 g3 g4 g5 g6=>r_aaa λg7 g8 g9 yI=>?_);have uc:3<ts.size:=(Gp.mp yI).1;have other:∀b,b≠T->(s.heap.update T (FP (·.setIfInBounds 3 (Dr L)))).get? b=s.heap.get? b:=λb hb=>Ek _ _ (Du hb);have uI:∀b o,s.heap.get? b=some o->(∀vs,o.data≠.fields vs)->b≠T:=λb o hb wC q=>by rw[q,g8] at hb;injection hb with hb;subst hb;exact wC ts g9
 have hB:∀b o,base.get? b=some o->b≠T:=λb o e q=>by rw[q,g6] at e;cases e
 have st:base.StaysIn (s.heap.update T (FP (·.setIfInBounds 3 (Dr L)))):=λb o e=>(other b (hB b o e)).trans (b4 b o e);unfold cameBackBy;refine wpAny_bind (EP g1 g3 g5 ?_);rw[CQ (by simp)];unfold setFlight;refine wpAny_bind (EP g1 g3 g5 ?_);rw[CM (show(Dp T !=Do)=true from by simp),hf];refine Go g8 g9 uc (h _ (I.slots b1 b2 b3 st λb o e hn=>⟨o.slots,(other b (uI b o e hn)).trans e⟩) (gb base b1 (λa ha o e=>?_) b3 st b5 (bE (b6.of_keeps λb o e hn=>(ae o ((other b (uI b o e hn)).trans e) rfl)) ?_)))
 ·obtain⟨i,hi⟩:=Eg.mp ha;have hl:i<H.length:=I.len▸(List.getElem?_eq_some_iff.mp hi).1;obtain⟨ob,wQ,_⟩:=I.objs i a H[i] hi (List.getElem?_eq_getElem hl);have q:=b2 a ha ob wQ;have q2:=(st _ _ q).symm.trans e;cases q2;exact q
 ·exact(iR oe vs T _ _ ((other e (Du g7)).trans g1) (dy g2 g3 g4 g5 g6 g7 (bT (Eu _ g8 (Ht (Gi g9 _))) (Gi g9 _) (by simp[uc]))))
theorem an2{n:Nat}{e:CF}(T:FE c U0 A env nk n)(F:FS true c.prog c.w U0 env vis ρ B μ H U s.heap)(X:hJ U c.fs k B μ s.heap e)
  (h:∀h',FS true c.prog c.w U0 env vis ρ B μ H U h'->hJ U c.fs k B μ h' e->E (.ref e) {s with heap:=h'}):
  notedBy (CG c.prog c.w) A env (λe s'=>cameBackBy (CG c.prog c.w) A env E e s') (.ref e) s:=by
 obtain⟨yH,h1,h2,h3⟩:=(T.top);refine om T.frames h1 h2 F.inv X λh' I x=>?_;refine aa0 h2 I x λyl I2 x2=>?_;exact h yl (F.step (λZ Z e=>e) (Pre.refl _) I2) (x2.exc h1 h2)
theorem tE.loop{n:Nat}{r:R Fl}{Q:Flow->CI->Prop}(T:FE c U0 A env nk n)(P:tE c U0 env vis s B μ r Q E):
  tE c U0 env vis s B μ r Q (notedBy (CG c.prog c.w) A env λe s'=>cameBackBy (CG c.prog c.w) A env E e s'):=by
 cases r with
 |ok fl H'=>cases fl<;>exact P
 |exc k H'=>exact λB' tB U' h' t' e ρ' x y F w=>an2 (s:={s with heap:=h',toks:=t'}) T F w λh2 F2 w2=>P B' tB U' h2 t' e ρ' x y F2 w2
 |bad=>exact P
end
section
variable {c:tN}{n:Nat}
theorem apP{d:PE}{b:tW}{t:CJ}{x:List Stmt}(hd:gz c n vis nk d t)(hb:d9 c n vis nk b x):dE c n vis nk (.uU d b) (.While t x [] pos):=λU0 A env ρ B μ H U s Q E T F G P=>by
 replace P:=tE.to P E5.uU;refine wpAny_While (codeAny_whileLoop (λm s=>∃ρ B μ H U,FS true c.prog c.w U0 env vis ρ B μ H U s.heap/\ur c.prog c.w B/\
  tE c U0 env vis s B μ (dR (λρ H=>ev c.Γ d 4 ρ H) (λρ H=>CK c.Γ b ρ H) m ρ H) Q (notedBy (CG c.prog c.w) A env λe s'=>cameBackBy (CG c.prog c.w) A env E e s')) ?_ c.Γ.wf (iR ρ B μ H U F (bE G (P.loop T))))
 intro m s yc;(revert yc;refine r_eeeeea λρ B μ H U F=>r_a λG P=>?_)
 cases m with
 |zero=>exact P.elim
 |succ m=>
  replace P:=tE.to P E9.s;refine(hd U).b A env ρ 4 B μ H s _ _ (T.es F) (cL F G) (aey (g:=λz H=>if z then(CK c.Γ b ρ H).bind λfl H=>match fl with
   | .next ρ=>dR (λρ H=>ev c.Γ d 4 ρ H) (λρ H=>CK c.Γ b ρ H) m ρ H
   | .ret v=>.ok (.ret v) H else .ok (.next ρ) H) F G P λz H' B' tB s' e F' G' hB tQ P'=>?_)
  cases z with
  |false=>refine Fk ?_;exact P' B' tB U s'.heap s'.toks (λZ Z e=>e) (Pre.refl _) F'
  |true=>refine hb U0 A env ρ B' tB H' U s' _ _ T F' G' (ael (f:=λρ H=>dR (λρ H=>ev c.Γ d 4 ρ H) (λρ H=>CK c.Γ b ρ H) m ρ H) G' P' (λBi H2 B2 vN U2 s2 e2 F2 G2 u5 uk P2=>?_) λcv s' q=>q);exact(acd m (D6 m) Bi B2 vN H2 (aI U2 F2 G2 P2))
end
section
theorem FS.asX(F:FS true prog w U0 env vis ρ B μ H U h){a:CF}(uu:a≠env.locals)(hold:∀o,h.get? a=some o->∀v,o.data≠.cell v)(nU:∀p,¬U0 a p)(hU:∀b p,b≠a->(U' b p↔U b p))(I:Inv prog w B U' μ H h'):
  FS true prog w U0 env vis ρ B μ H U' h':=by
 have hc:∀b o v,U b o->o.data=.cell v->b≠a:=by rintro b o v hu hd rfl;refine o_aaea (F.inv.us _ _ hu) λZ Z sl e Z=>?_;exact hold _ e _ hd
 refine⟨I,?_,?_,λb p hu=>(hU b p (λq=>nU p (q▸hu))).mpr (F.keep b p hu)⟩
 ·intro i x v h1 h2 h3;obtain⟨cv,g1,g2⟩:=F.nm i x v h1 h2 h3;refine(ae cv g1 ?_);rcases g2 with⟨g3,o,g4,g5⟩ |⟨g3,b,o,g4,g5,g6,g7⟩
  ·exact .inl (jv g3 o ((hU _ _ uu.symm).mpr g4) g5)
  ·exact .inr (eH g3 b o g4 ((hU _ _ (hc _ _ _ g5 g6)).mpr g5) g6 g7)
 ·obtain⟨o,es,ep,g1,g2,g3⟩:=(F.own.dict);refine⟨(bZ o es ep ((hU _ _ uu.symm).mpr g1) g2 g3),?_,λq x b e1 e2=>?_,F.own.apart,F.own.off⟩
  ·intro b hb p q' hp hq;have xg:b≠a:=by
    rcases hb with rfl |⟨q,x,e1,e2⟩
    ·exact uu.symm
    ·obtain⟨o,v,g4,g5⟩:=F.own.cell q x b e1 e2;exact hc _ _ _ g4 g5
   exact F.own.one b hb p q' ((hU _ _ xg).mp hp) ((hU _ _ xg).mp hq)
  ·obtain⟨o,v,g4,g5⟩:=F.own.cell q x b e1 e2;exact(bR o v ((hU _ _ (hc _ _ _ g4 g5)).mpr g4) g5)
theorem FS.wH(F:FS true prog w U0 env vis ρ B μ H U h){a:CF}{o':Obj}(uu:a≠env.locals)(hold:∀o,h.get? a=some o->∀v,o.data≠.cell v)(nB:B.get? a=none)(nM:a∉μ)(nU:∀p,¬U0 a p)(hs:DF a h h')(e':h'.get? a=some o'):
  FS true prog w U0 env vis ρ B μ H (U.put a o') h':=F.asX uu hold nU (λb p hb=>⟨λx=>x.elim (·.2) λq=>CP q.1 hb,λx=>.inl ⟨hb,x⟩⟩) (F.inv.wu hs e' nB nM)
theorem FS.arR(F:FS true prog w U0 env vis ρ B μ H U h){a:CF}(uu:a≠env.locals)(hold:∀o,h.get? a=some o->∀v,o.data≠.cell v)(nB:B.get? a=none)(nM:a∉μ)(nU:∀p,¬U0 a p)(hs:DF a h h'):
  FS true prog w U0 env vis ρ B μ H (λb p=>b≠a/\U b p) h':=F.asX uu hold nU (λb p hb=>⟨λx=>x.2,λx=>⟨hb,x⟩⟩)
   ((F.inv.less (U':=λb p=>b≠a/\U b p) λZ Z x=>x.2).but hs nB nM λo x=>x.1 rfl)
theorem FS.up{a:CF}{o:Obj}(F:FS true prog w U0 env vis ρ B μ H U h)(hu:U a o):FS true prog w (U0.put a o) env vis ρ B μ H U h:=⟨F.inv,F.nm,F.own,λb p x=>x.elim (λq=>F.keep b p q.2) λq=>by clear x;obtain⟨rfl,rfl⟩:=q;exact hu⟩
theorem FS.weak(F:FS true prog w U0' env vis ρ B μ H U h)(le:∀b p,U0 b p->U0' b p):FS true prog w U0 env vis ρ B μ H U h:=⟨F.inv,F.nm,F.own,λb p x=>F.keep b p (le b p x)⟩
end
section
variable {c:tN}{n:Nat}
theorem FE.put{a:CF}{o:Obj}(T:FE c U0 A env nk n)(nU:∀p,¬U0 a p)(uu:a≠env.locals)(hc:∀x b,env.cells.lookup x=some b->env.kindOf x=some .cell->b≠a):FE c (U0.put a o) A env nk n where
 kind:=T.kind
 glob:=T.glob
 blt:=T.blt
 kinds:=T.kinds
 cls:=T.cls
 frames:=T.frames
 top:=by obtain⟨yH,h1,h2,h3⟩:=T.top;refine(aI yH h1 h2 (λe he=>?_));refine o_aeeaa (h3 e he) λh4 L o h5 h6 h7=>?_;exact(jw h4 L o h5 (tD.tU (λq=>nU o (q▸h6)) h6) h7)
 deep:=T.deep
 units:=T.units
 u3:=by
  rcases T.u3 with h |⟨h1,h2,x,o,vs,h3,h4,h5⟩
  ·exact .inl h
  ·exact .inr (nF h1 h2 x o vs h3 (bE (tD.tU (λq=>nU o (q▸h4)) h4) h5))
 off:=⟨λp h=>h.elim (λq=>T.off.loc p q.2) λq=>uu q.1.symm,λq x b p e1 e2 h=>h.elim (λz=>T.off.cell q x b p e1 e2 z.2) λz=>hc x b e1 e2 z.1⟩
theorem apR{r:R Fl}{f:aB->AH->R Fl}{Q:Flow->CI->Prop}{Q₁:Flow->CI->Prop}(le:∀b p,U0 b p->U0' b p)(G:ur c.prog c.w B)
  (P:tE c U0 env vis s B μ (r.bind λfl H=>match fl with | .next ρ=>f ρ H | .ret v=>.ok (.ret v) H) Q E)
  (k:∀ρ' H' B' tB U' (s':CI),r=.ok (.next ρ') H'->FS true c.prog c.w U0' env vis ρ' B' tB H' U' s'.heap->ur c.prog c.w B'->B.StaysIn B'->Pre μ tB->tE c U0 env vis s' B' tB (f ρ' H') Q E->Q₁ .next s')
  (k2:∀cv (s':CI),Q (.ret cv) s'->Q₁ (.ret cv) s'):tE c U0' env vis s B μ r Q₁ E:=by
 cases r with
 |ok fl H'=>
  cases fl with
  |next ρ'=>exact λB' tB U' h' t' x y F=>k ρ' H' B' tB U' {s with heap:=h',toks:=t'} rfl F (G.mono x) x y (tE.shift P x y h' t')
  |ret v=>exact λB' tB U' h' t' cv ρ' x y F w=>k2 cv _ (P B' tB U' h' t' cv ρ' x y (F.weak le) w)
 |exc j H'=>exact λB' tB U' h' t' e ρ' x y F w=>P B' tB U' h' t' e ρ' x y (F.weak le) w
 |bad=>exact P
end
section
variable {R:Result->CI->Prop}
theorem ahL{it:CE}(I:Nat->CI->Prop)
  {E4:CE->CI->Prop} (hE4:∀e s',E4 e s'->notedBy (CG prog w) A env (λe s'=>R (.error e) s') e s')
  (turn:∀n s (N:CI->Prop) (K1:Option CE->CI->Prop) (K4:Flow->CI->Prop),(∀m s,m<n->I m s->N s)->(∀tz,R (.ok .next) tz->K1 none tz)->(∀ul,N ul->K4 .next ul)->(∀v ul,R (.ok (.ret v)) ul->K4 (.ret v) ul)->
   (∀v tz,CH (CG prog w) A (FV target it v) (λZ u4=>CH (CG prog w) A (assign target env v) (λZ tM=>CH (CG prog w) A (DC body env) K4 E4 tM) (λZ Z=>False) u4) (λZ Z=>False) tz->K1 (some v) tz)->I n s->CH (CG prog w) A (pyNext it) K1 (λZ Z=>False) s)
  (n:Nat) (h:I n s):codeAny (CG prog w) A (.forLoop target it body [] env) R s:=by
 refine codeAny_loop' rfl I (λn s hI=>?_) n h;show CH _ _ ((forTurn target it body [] env).onRaise (λx=>do noteFrame x env;theTreesLotGoes x)) _ _ s
 refine JZ ?_;simp -iota only[forTurn];refine wpAny_bind (DT (wpAny_bind (wpAny_onRaise (C7 (turn n s (λs=>∃m,m<n/\I m s) (λr tz=>match r with
   |none=>R (.ok .next) tz
   |some v=>CH (CG prog w) A (FV target it v) (λZ u4=>CH (CG prog w) A (assign target env v) (λZ tM=>CH (CG prog w) A (DC body env) (λf ul=>match f with
     | .next | .cont=>∃m,m<n/\I m ul
     | .brk=>R (.ok .next) ul
     | .ret v=>R (.ok (.ret v)) ul) E4 tM) (λZ Z=>False) u4) (λZ Z=>False) tz) _ (λm Z a b=>⟨m,a,b⟩) (λZ h=>h) (λZ h=>h) (λZ Z h=>h) (λZ Z h=>h) hI) (λr tz tC=>?_) λZ Z h'=>h'.elim))))
 cases r with
 |none=>exact wpAny_pure (.inr ⟨rfl,codeAny_block (Fk tC)⟩)
 |some v=>
  refine wpAny_bind (C7 tC (λZ u4 xk=>?_) λZ Z h'=>h'.elim);refine wpAny_bind (C7 xk (λZ tM t6=>wpAny_bind (C7 t6 (λf ul vP=>?_) hE4)) λZ Z h'=>h'.elim)
  cases f with
  |next=>exact wpAny_pure (.inl ⟨rfl,vP⟩)
  |cont=>exact wpAny_pure (.inl ⟨rfl,vP⟩)
  |brk=>exact wpAny_pure vP
  |ret v=>exact wpAny_pure vP
end
section
variable {c:tN}{n:Nat}
theorem apH{t:List Nat}{ie:PE}{b:tW}{x:List Stmt}(hi:gz c n vis nk ie vF)(ht:TE vis nk ie vF)(uz:bQ vis=true)
  (hx:cZ one tg=some xs) (hl:t.length=xs.length) (yb:fK vis nk t xs=true) (hb:d9 c n vis nk b x):dE c n vis nk (.for t one ie b) (.For tg vF x [] pos):=λU0 A env ρ B μ H U s Q E T F G P=>by
 replace P:=tE.to P E5.for
 cases vU:c.Γ.hd with
 |true=>rw[vU] at P;exact P.elim
 |false=>
  have hh:A.handled=none:=by
   rcases T.u3 with⟨_,h⟩ |⟨h,_⟩
   ·exact h
   ·rw[vU] at h;cases h
  rw[vU] at P;simp -iota only[Fn,Fj] at P;have hz:∀i x,(i,x)∈t.zip xs->(i,x)∈vis/\i7 true env x:=λi x hm=>⟨(je yb hm).1,T.slot (je yb hm).2⟩;refine wpAny_For ((hi U).v A env ρ 4 B μ H s _ E (T.es F) (cL F G) (iJ F G P λsrc H' B' tB s' yh e F' G' w hB tQ P'=>?_)) (λx=>rL ht env x)
  cases qi:aS H' src 0 with
  |none=>replace P':=tE.to P' E8.s;rw[qi] at P';exact P'.elim
  |some r=>
   refine oM (c:=c.tF U) F'.inv w qi λo xI=>?_;have nB:=F'.inv.xq;have nM:=F'.inv.nextM;have nU:=F'.inv.wF;(revert xI nB nM nU;refine cX s'.heap.objs.size λit hit xI nB nM nU=>?_);obtain⟨oI,eI,fI⟩:=(xI.obj);have xz:∀p,¬U0 it p:=λp hu=>nU p (F'.keep _ _ hu);have uu:it≠env.locals:=by obtain⟨o,es,ep,g1,_⟩:=F'.own.dict;exact λq=>nU o (q▸g1)
   have v4:∀x b,env.cells.lookup x=some b->env.kindOf x=some .cell->b≠it:=λx b e1 e2=>by obtain⟨o,v,g4,_⟩:=F'.own.cell rfl x b e1 e2;exact λq=>nU o (q▸g4)
   have uA:∀{h:CL}{o:Obj},h.get? it=some o->d6 o->∀o,h.get? it=some o->∀v,o.data≠.cell v:=λe ⟨vs,f⟩ o e2 v q=>by rw[e] at e2;cases e2;rw[f] at q;cases q
   have F0:FS true c.prog c.w U0 env vis ρ B' tB H' (U.put it oI) (s'.heap.push o):=(F'.step (λZ Z e=>e) (Pre.refl _) (F'.inv.push o)).wH uu (uA eI fI) nB nM xz (λZ Z Z e=>e) eI;have BH:∃E2:CE->CI->Prop,(∀e s',E2 e s'->notedBy (CG c.prog c.w) A env (λe s'=>cameBackBy (CG c.prog c.w) A env E e s') e s')/\tE c U0 env vis {s' with heap:=s'.heap.push o,toks:=s'.toks} B' tB (ga (λH j=>aS H src j) (λv ρ H=>match bz H t one v ρ with
     |some ρ=>CK c.Γ b ρ H
     |none=>.bad) (cJ H' src+1) 0 ρ H') Q E2:=(ae _ (λZ Z h=>h) ((tE.shift P' (λZ Z e=>e) (Pre.refl _) (s'.heap.push o) s'.toks).loop T))
   obtain⟨E2,BH,P'⟩:=BH;refine ahL (λm s=>∃j ρ B μ H U oI,FS true c.prog c.w U0 env vis ρ B μ H U s.heap/\ur c.prog c.w B/\wz B μ src j s.heap it/\U it oI/\d6 oI/\
    tE c U0 env vis s B μ (ga (λH j=>aS H src j) (λv ρ H=>match bz H t one v ρ with
     |some ρ=>CK c.Γ b ρ H
     |none=>.bad) m j ρ H) Q E2) (E4:=E2) BH ?_ (cJ H' src+1)
    (dU 0 ρ B' tB H' _ (gb oI F0 G' xI (tD.t7 _ _ _) fI P'))
   intro m s N K1 K4 hN k0 k4n k4r k1 yc;(revert yc;refine r_eeeeee λj ρ B μ H U=>r_eaaaaa λoI F G xI wI fI P=>?_)
   cases m with
   |zero=>exact P.elim
   |succ m=>
    replace P:=tE.to P E8.s;obtain⟨nB,nM,_⟩:=F.inv.us it oI wI;have eI:=F.inv.at_ wI (.inl fI)
    cases qi:aS H src j with
    |none=>rw[qi] at P;exact P.elim
    |some r=>
     rw[qi] at P;refine mx (c:=c.tF U) hh F.inv xI qi (λv cv h' t' e hv x' hs=>?_) λh' e hs=>?_
     ·clear qi;subst e;refine k1 _ _ ?_;dsimp only at P;obtain⟨zo,Ak,Ao⟩:=(x'.obj);have F1:=(F.wH uu (uA eI fI) nB nM xz hs Ak).up (tD.t7 _ _ _);have T':=T.put (o:=zo) xz uu v4;refine rq (s:={s with heap:=h',toks:=t'}) x' ?_
      cases qb:bz H t one v ρ with
      |none=>rw[qb] at P;exact P.elim
      |some Bi=>
       rw[qb] at P;refine uG (c:=c) (s:={s with heap:=h',toks:=t'}) one (.inr hh) hx hl qb hv F1 T'.off uz T'.kind hz λh2 U2 t2 F2=>?_;refine hb (U0.put it zo) A env Bi B μ H U2 _ _ _ T' F2 G (apR (f:=λρ H=>ga (λH j=>aS H src j) (λv ρ H=>match bz H t one v ρ with
        |some ρ=>CK c.Γ b ρ H
        |none=>.bad) m (j+1) ρ H) (U0:=U0) (λb p hu=>tD.tU (λq=>xz p (q▸hu)) hu) G (tE.shift P (λZ Z e=>e) (Pre.refl _) h2 t2) (λρ3 H3 B3 za U3 s3 e3 F3 G3 vZ uY P3=>?_) k4r)
       have w3:=F3.keep _ _ (tD.t7 U0 it zo);have e3:=F3.inv.at_ w3 (.inl Ao);exact k4n _ (hN m _ (D6 m) (iQ (j+1) ρ3 B3 za (ce H3 U3 zo (F3.weak λb p hu=>tD.tU (λq=>xz p (q▸hu)) hu) G3 (x'.at_ (λo e=>by rw[Ak] at e;cases e;exact e3) vZ uY) (bT w3 Ao P3))))
     ·clear qi;subst e;dsimp only at P;exact k0 _ (P B μ _ h' s.toks (λZ Z e=>e) (Pre.refl _) (F.arR uu (uA eI fI) nB nM xz hs))
end
theorem ahA{f g:α->Option β}:∀{l:List α},(∀x∈l,f x=g x)->l.filterMap f=l.filterMap g:=by
 intro zi
 induction zi with
 |nil=>
 exact @λZ=>rfl
 |cons x l ih=>
 exact @λh=>by rw[GB,GB,h x Dy,ih λy hy=>h y (Dt _ hy)]
theorem aq7:∀{ps:List Str}{cs:List α},ps.Nodup->ps.length=cs.length->ps.filterMap (λn=>((ps.zip cs).lookup n).map (n,·))=ps.zip cs:=by
 intro ps cs hn hl;have key:∀(l:List (Str×α)),(l.map (·.1)).Nodup->(l.map (·.1)).filterMap (λn=>(l.lookup n).map (n,·))=l:=by
  intro l
  induction l with
  |nil=>intro _;rfl
  |cons p l ih=>intro hn;obtain⟨h1,h2⟩:=Ge.mp hn;obtain⟨x,v⟩:=p;rw[DY,K0 (b:=(x,v)) (by simp)];congr 1;refine Eq.trans ?_ (ih h2);refine ahA λy hy=>?_;rw[EG,EL.mpr (λ(e:y=x)=>h1 (by clear hn h1;subst e;exact hy))]
 have:=key (ps.zip cs) (by rw[Gc (C5 hl)];exact hn);rw[Gc (C5 hl)] at this;exact this
theorem acg{α:Type}:∀{ps:List Str}{cs:List α},ps.length=cs.length->∀x∈ps,((ps.zip cs).lookup x).isNone=false
 |[],_,_,x,h=>by cases h
 |p::ps,[],h,_,_=>by cases h
 |p::ps,c::cs,h,x,hm=>by
  rw[Ls,EG]
  cases q:x==p with
  |true=>rfl
  |false=>
   rcases CX.mp hm with rfl |hm
   ·simp at q
   ·exact acg (by simpa using h) x hm
theorem ba1{a b:Nat}(h:a=b):¬((decide (b>a)&&true)=true):=by subst h;rw[DD (CY a)];exact HP
theorem ba2{ps:List Str}(hl:ps.length=tA.length)(k:Nat):¬((!((ps.take k).filter λn=>((ps.zip tA).lookup n).isNone).isEmpty)=true):=by rw[List.filter_eq_nil_iff.mpr λx hx=>by rw[acg hl x (Ik hx)];decide];decide
theorem ba3{σ:Type}(l:List α)(m:Nat)(init:σ)(f:α×β->σ->Sem (ForInStep σ)):forIn (l.zip (Je m ([]:List β))) init f=pure init:=by rw[Ji,List.zip_nil_right];rfl
theorem lF{ps:List Str}(ha:mT fd.params ps=true)(hd:fd.defaults=.none)(hn:ps.Nodup)(hl:ps.length=tA.length):bindArgs fd ⟨tA,[]⟩=pure (ps.zip tA):=by obtain⟨_,_,⟨pa,ar,va,ko,kd,kw,df⟩,_,_,_,_,d,_⟩:=fd;simp only[mT,Bool.and_eq_true,DX,EA,Df] at ha;obtain⟨⟨⟨⟨⟨⟨⟨h1,h2⟩,h3⟩,h4⟩,h5⟩,h6⟩,h7⟩,h8⟩:=ha;subst h1 h2 h3 h4 h7 hd;clear h5 h6 h8;refine(CQ (ba1 hl)).trans ((CQ (ba2 hl _)).trans ((CN (λx:Sem _=>x>>=_) (ba3 _ _ _ _)).trans ?_));exact CN (pure (f:=Sem)) ((CN _ (Ds _)).trans (aq7 hn hl))
theorem afM{kd:Str->Option NameKind}:∀{b:List (Str×CE)}{m:Str->Option CE}{x:Str},x∉b.map (·.1)->bindL kd b m x=m x:=by
 intro zi
 induction zi with
 |nil=>
 exact @λZ Z Z=>rfl
 |cons zp r ih=>
 obtain⟨n,v⟩:=zp;exact @λm x h=>by
  simp only[DY,CX,Fx] at h;unfold bindL;rw[ih h.2]
  split
  ·exact CQ h.1
  ·rfl
theorem afL{kd:Str->Option NameKind}:∀{b:List (Str×CE)}{m:Str->Option CE}{x:Str},x∉b.map (·.1)->bindC kd b m x=m x:=by
 intro zi
 induction zi with
 |nil=>
 exact @λZ Z Z=>rfl
 |cons zp r ih=>
 obtain⟨n,v⟩:=zp;exact @λm x h=>by
  simp only[DY,CX,Fx] at h;unfold bindC;rw[ih h.2]
  split
  ·rfl
  ·exact CQ h.1
theorem mZ{kd:Str->Option NameKind}{b:List (Str×CE)}{m m':Str->Option CE}{v:CE}(hn:(b.map (·.1)).Nodup)(h:(x,v)∈b):(kd x=some .local->bindL kd b m x=some v)/\(kd x≠some .local->bindC kd b m' x=some v):=by
 induction b generalizing m m' with
 |nil=>cases h
 |cons p r ih=>
  obtain⟨n,u⟩:=p;obtain⟨h1,h2⟩:=Ge.mp hn;rcases CX.mp h with e |h
  ·clear hn h;cases e;unfold bindL bindC;rw[afM h1,afL h1];exact⟨λq=>by rw[CM q];simp,λq=>by rw[CQ q];simp⟩
  ·unfold bindL bindC;exact ih h2 h
theorem m8:∀{names:List (Str×NameKind)}{n:Nat}{acc:List (Str×CF)}{x:Str},(acc.lookup x).isSome=true\/(x,GH)∈names->((cellsFrom n names acc).lookup x).isSome=true:=by
 intro zi
 induction zi with
 |nil=>
 exact @λn acc x h=>by
  rcases h with h |h
  ·exact h
  ·cases h
 |cons zp r ih=>
 obtain⟨y,k⟩:=zp;exact @λn acc x h=>by
  unfold cellsFrom
  split
  ·rename_i hk
   refine ih ?_;rcases h with h |h
   ·left;rw[EG];cases x==y<;>first |rfl |exact h
   ·rcases CX.mp h with e |h
    ·clear hk h;cases e;left;rw[EG];simp
    ·exact .inr h
  ·rename_i hk
   refine ih ?_;rcases h with h |h
   ·exact .inl h
   ·rcases CX.mp h with e |h
    ·clear h;cases e;exact CP (show(GH==GH)=true from rfl) hk
    ·exact .inr h
theorem agk:∀{names:List (Str×NameKind)}{n:Nat}{acc:List (Str×CF)}{x:Str}{a:CF},(x,a)∈cellsFrom n names acc->(x,a)∈acc\/(x,GH)∈names:=by
 intro zi
 induction zi with
 |nil=>
 exact @λn acc x a h=>.inl h
 |cons zp r ih=>
 obtain⟨y,k⟩:=zp;exact @λn acc x a h=>by
  unfold cellsFrom at h
  split at h
  ·rename_i hk
   rcases ih h with h |h
   ·rcases CX.mp h with e |h
    ·clear h;cases e;right;rw[Df.mp hk];exact Dy
    ·exact .inl h
   ·exact .inr (Dt _ h)
  ·rcases ih h with h |h
   ·exact .inl h
   ·exact .inr (Dt _ h)
theorem qZ{np:Nat}{ps:List Str}(h:lU np nv vis ps nk=true):vS np nv vis ps nk:=by
 simp only[lU,Bool.and_eq_true,C9,Df] at h;obtain⟨⟨⟨⟨⟨⟨h1,h2⟩,h3⟩,h4⟩,h5⟩,h6⟩,h7⟩:=h;refine⟨h1,h2,h3,h4,λi x hx=>?_,λi x hx=>?_,λx hx=>?_⟩
 ·have hi:=(List.getElem?_eq_some_iff.mp hx).1;have:(i,x)∈(CS np).zip ps:=by
   refine DZ (i:=i) ?_;rw[La];exact⟨by rw[ET (ame h1 hi)],hx⟩
  exact Ik (h5▸this)
 ·have:=C1.mp h6 _ hx
  simpa only[Bool.and_eq_true,C9,EF,Df] using this
 ·have:=C1.mp h7 _ (mem_of_lookup hx);simp at this
section
variable {c:tN}
noncomputable def tD.call(U:tD)(h:CL)(L:CF)(cs:List (Str×CF)):tD:=λb p=>U b p\/(h.get? b=some p/\(b=L\/∃x,cs.lookup x=some b))
theorem abJ{a:CF}{np:Nat}{ps:List Str}{tz:CI}(I:Inv c.prog c.w B c.U μ H s.heap)(F:vS np nv vis ps fd.scope.names)(hk:fd.scope.kind=.function)
  (hv:tK B μ vs tA) (hl:vs.length=np)
  (X:InCallC s s.heap.objs.size (bindL (λx=>fd.scope.names.lookup x) (ps.zip tA) λZ=>none) (cellsFrom (s.heap.objs.size+1) fd.scope.names []) (bindC (λx=>fd.scope.names.lookup x) (ps.zip tA) λZ=>none) tz):
  ∃tC ux,tz={s with heap:=tC,toks:=ux}/\Off true c.U (C0 fd s.heap.objs.size a)/\FS true c.prog c.w c.U (C0 fd s.heap.objs.size a) vis (vs++CR (nv-np) .undef) B μ H (c.U.call tC s.heap.objs.size (cellsFrom (s.heap.objs.size+1) fd.scope.names [])) tC:=by
 obtain⟨tC,ux,rfl,yu⟩:=(X.done);have v4:tA.length=np:=by rw[hv.length,hl]
 have new:∀b,s.heap.objs.size<=b->B.get? b=none/\b∉μ/\∀p,¬c.U b p:=λb hb=>by
  refine⟨?_,λhm=>CY _ (Nat.lt_of_lt_of_le (I.lt hm) hb),λp hu=>CY _ (Nat.lt_of_lt_of_le (I.zO hu) hb)⟩
  cases q:B.get? b with
  |none=>rfl
  |some o=>exact CP (Nat.lt_of_lt_of_le (Dh (I.base _ _ q)) hb) (CY _)
 have above:∀x b,(cellsFrom (s.heap.objs.size+1) fd.scope.names []).lookup x=some b->s.heap.objs.size<b:=λx b e=>X.above x b (mem_of_lookup e);have atE:∀b,(b=s.heap.objs.size\/∃x,(cellsFrom (s.heap.objs.size+1) fd.scope.names []).lookup x=some b)->s.heap.objs.size<=b:=by
  rintro b (rfl |⟨x,e⟩)
  ·exact Nat.le_refl _
  ·exact CU (above x b e)
 have asa:∀x b,(cellsFrom (s.heap.objs.size+1) fd.scope.names []).lookup x=some b->(x,GH)∈fd.scope.names:=λx b e=>(agk (mem_of_lookup e)).resolve_left (by simp);refine(ax tC ux rfl ⟨λp=>(new _ (Nat.le_refl _)).2.2 p,λZ x b p e Z=>(new _ (CU (above x b e))).2.2 p⟩ ?_);obtain⟨oL,es,ep,eL,dL,kL,fL⟩:=id X.toInCall.ns;refine⟨⟨λb o e=>yu _ _ (I.base _ _ e),?_,I.nodup,I.fresh,I.len,λi b o x y=>?_⟩,?_,?_,λb p hu=>.inl hu⟩
 ·rintro b o (hu |⟨e,hb⟩)
  ·refine o_aaea (I.us b o hu) λg1 g2 sl g3 g4=>?_;exact(fu g1 g2 sl (yu _ _ g3) g4)
  ·obtain⟨n1,n2,_⟩:=new b (atE b hb);exact(fu n1 n2 o.slots e (λZ=>rfl))
 ·obtain⟨ob,g1,g2⟩:=I.objs i b o x y;exact(ae ob (yu _ _ g1) g2)
 ·intro i x v hm hr zk;obtain⟨hi,hkd⟩:=F.kind i x hm;have A2:i<vs.length:=by
   by_cases q:i<vs.length
   ·exact q
   ·rw[F9 (Dq q),Ih] at hr
    split at hr
    ·cases hr;exact CP rfl zk
    ·cases hr
  rw[Ee A2] at hr;have A3:∃y,ps[i]?=some y:=⟨ps[i]'(by rw[F.len];exact GL A2 hl),List.getElem?_eq_getElem _⟩;obtain⟨y,hy⟩:=A3;obtain rfl:x=y:=(mG F.ok hm (F.par i y hy)).mp rfl;obtain⟨cv,g1,g2⟩:=hv.get hr;have xV:(x,cv)∈ps.zip tA:=DZ (i:=i) (La.mpr ⟨hy,g1⟩);have u3:((ps.zip tA).map (·.1)).Nodup:=by rw[Gc (by rw[F.len,v4];exact Nat.le_refl _)];exact F.nodup
  refine(ae cv g2.xv ?_);rcases hkd with hl |hl
  ·refine .inl (rf hl oL (.inr ⟨eL,.inl rfl⟩) es ep dL (bE kL ?_));rw[fL];exact(mZ (m':=λZ=>none) u3 xV).1 hl
  ·obtain⟨b,hb⟩:=FR.mp (m8 (n:=s.heap.objs.size+1) (acc:= []) (.inr (mem_of_lookup hl)));obtain⟨ob,e1,e2⟩:=X.cell x b hb;refine .inr (eH (.inl hl) b ob hb (.inr ⟨e1,.inr ⟨x,hb⟩⟩) ?_ (C2 (above x b hb)));rw[e2];exact CN Data.cell ((mZ (kd:=λx=>fd.scope.names.lookup x) (m:=λZ=>none) u3 xV).2 (λq=>by rw[hl] at q;cases q))
 ·refine⟨(bZ oL es ep (.inr ⟨eL,.inl rfl⟩) dL kL),?_,λZ x b e Z=>?_,λZ x y b e1 e2=>name_of_addr X.apart (mem_of_lookup e1) (mem_of_lookup e2),λZ x b e=>C2 (above x b e)⟩
  ·rintro b hb p q hp hq;have xg:s.heap.objs.size<=b:=by
    rcases hb with rfl |⟨_,x,e,_⟩
    ·exact Nat.le_refl _
    ·exact CU (above x b e)
   have hn:=(new b xg).2.2;rcases hp with hp |⟨hp,_⟩
   ·exact CP hp (hn p)
   ·rcases hq with hq |⟨hq,_⟩
    ·exact CP hq (hn q)
    ·rw[hp] at hq;cases hq;rfl
  ·obtain⟨ob,e1,e2⟩:=X.cell x b e;exact(bR ob _ (.inr ⟨e1,.inr ⟨x,e⟩⟩) e2)
theorem ai1{e:CF}{Q:Unit->CI->Prop}(xF:A.frames=some (env::outer))(hf:env.frame=some L)(I:Inv c.prog c.w B U' μ H s.heap)
  (X:hJ U' (env::outer) k B μ s.heap e) (sub:∀b p,c.U b p->U' b p) (h:∀h',Inv c.prog c.w B c.U μ H h'->hJ c.U outer k B μ h' e->Q () {s with heap:=h'}):CH (CG c.prog c.w) A (leaving env (.ref e)) Q E s:=by
 unfold leaving;refine wpAny_bind (om (c:={c with fs:=env::outer}) xF rfl hf I X λh1 I1 X1=>?_);(revert X1;refine r_eaaaaa λbase b1 b2 b3 b4 b5=>r_aeeeee λb6 oe vs T oT ts=>r_aaaaaa λg1 g2 g3 g4 g5 g6=>r_aaa λg7 g8 g9 yI=>?_);have uc:3<ts.size:=(Gp.mp yI).1;have other:∀b,b≠T->(h1.update T (FP (·.setIfInBounds 3 Do))).get? b=h1.get? b:=λb hb=>Ek _ _ (Du hb);have uI:∀b o,h1.get? b=some o->(∀vs,o.data≠.fields vs)->b≠T:=λb o hb wC q=>by rw[q,g8] at hb;injection hb with hb;subst hb;exact wC ts g9
 have hB:∀b o,base.get? b=some o->b≠T:=λb o e q=>by rw[q,g6] at e;cases e
 have st:base.StaysIn (h1.update T (FP (·.setIfInBounds 3 Do))):=λb o e=>(other b (hB b o e)).trans (b4 b o e);unfold setFlight;refine wpAny_bind (EP g1 g3 g5 ?_);rw[CM (show(Dp T !=Do)=true from by simp)];refine Go g8 g9 uc (h _ ((I1.slots b1 b2 b3 st λb o e hn=>⟨o.slots,(other b (uI b o e hn)).trans e⟩).less sub) (gb base b1 (λa ha o e=>?_) (λa o hu hx=>b3 a o (sub a o hu) hx) st b5 (bE ((b6.of_keeps λb o e hn=>(ae o ((other b (uI b o e hn)).trans e) rfl)).2.2) ?_)))
 ·obtain⟨i,hi⟩:=Eg.mp ha;have hl:i<H.length:=I1.len▸(List.getElem?_eq_some_iff.mp hi).1;obtain⟨ob,wQ,_⟩:=I1.objs i a H[i] hi (List.getElem?_eq_getElem hl);have q:=b2 a ha ob wQ;have q2:=(st _ _ q).symm.trans e;clear wQ;cases q2;exact q
 ·exact(dT oe vs ((other e (Du g7)).trans g1) g2 g3 (.inr (ef T _ _ (.none) g5 g6 (gM g7 (Eu _ g8 (Ht (Gi g9 _))) (Gi g9 _) (by simp[uc]) (.inl rfl)))) g4)
theorem aaX{a:CF}{np:Nat}{ps:List Str}(D:vn B a fd body ps)(F:vS np nv vis ps fd.scope.names)
  (I:Inv c.prog c.w B c.U μ H s.heap) (wO:B.NoLimit) (hv:tK B μ vs tA) (hl:vs.length=np) (xi:A.depth<recursionLimit)
  (h:∀tC ux,Off true c.U (C0 fd s.heap.objs.size a)->FS true c.prog c.w c.U (C0 fd s.heap.objs.size a) vis (vs++CR (nv-np) .undef) B μ H (c.U.call tC s.heap.objs.size (cellsFrom (s.heap.objs.size+1) fd.scope.names [])) tC->
   CH (CG c.prog c.w) (A.deeper (C0 fd s.heap.objs.size a)) (DC body (C0 fd s.heap.objs.size a)) (λf s'=>Q (match f with | .ret v=>v |_=>.none) s')
    (λe s'=>CH (CG c.prog c.w) (A.deeper (C0 fd s.heap.objs.size a)) (leaving (C0 fd s.heap.objs.size a) e) (λZ wx=>E e wx) (λe' wx=>E e' wx) s') {s with heap:=tC,toks:=ux})
  (uE:fd.closure=[]):CH (CG c.prog c.w) A (call (.ref a) tA) Q E s:=by
 obtain⟨o,ho,hd⟩:=(D.ob);have v4:ps.length=tA.length:=by rw[hv.length,hl,F.len]
 refine FX (JO xi (I.base _ _ ho) hd (wO.keeps λb o e=>I.base b o e) (D.code.keeps λb o e=>I.base b o e) D.body (lF D.args D.dflt F.nodup v4) uE (λx hx=>?_) (λtz X=>?_) D.co D.gen D.kind)
 ·obtain⟨n,v⟩:=x;obtain⟨i,hi⟩:=Eg.mp (FH hx).1;rcases(F.kind i n (F.par i n hi)).2 with q |q
  ·exact .inl q
  ·exact .inr ⟨q,m8 (.inr (mem_of_lookup q))⟩
 ·(obtain⟨tC,ux,zq2,h1,h2⟩:=abJ (a:=a) I F D.kind hv hl X;clear X;subst zq2);exact h tC ux h1 h2
end
section
open Builtin Builtin.ObjectAttr
section
variable {x:CF}{cd:ClassData}{name:Str}{v:CE}{mA:Str->Option CE}
theorem anU{d:Drawn}{t:Nat}{R:Result->CI->Prop}{tk:Tok}{ns:List Str}(X:K.In h)(S:Stores K C name cd)(I:h.Inst x C mA)(hw:JJ mA ns)(uc:ns.length<=1000)
  (hq:∀h' y8,h'.Inst x C (λy=>if y=name then some v else mA y)->
   (∀b o,b≠x->(∀uy dx,h.get? x=some uy->uy.dict=some dx->b≠dx)->h.get? b=some o->h'.get? b=some o)->
   (∀uy,h.get? x=some uy->∃vL,h'.get? x=some vL/\vL.cls=uy.cls/\vL.data=uy.data/\vL.slots=uy.slots/\∀dx,uy.dict=some dx->vL.dict=some dx)->R (.ok (.ret .none)) ⟨h',g,d,y8,os⟩):
  codeAny (CG prog w) A (.call (.builtin "object.__setattr__") ⟨[.ref x,.str name tk,v],[]⟩) R ⟨h,g,d,t,os⟩:=by
 obtain⟨o,hx,hc,Ay,hd⟩:=I;have SF:=Mk;have T:Looks (CG prog w) h (typeOf (.ref x)) (.ref C):=by have:Looks (CG prog w) h (typeOf (.ref x)) o.cls:=(Js hx).andThen .now;rw[hc] at this;exact this
 have sub:Looks (CG prog w) h (isInstance (.ref x) (.type "object")) true:=T.andThen (looks_mroIn X (by unfold mroIn;rw[S.cls,L9,CQ (by rw[S.ne];decide),S.obj]))
 have hm:Looks (CG prog w) h (mroOf (.ref C)) cd.mro:=(looks_clsIn X S.cls).andThen .now
 refine MF SF.slot.plain SF.entry (@check_slot (CG prog w) _ _ ⟨h,g,d,t,os⟩ "object.__setattr__" "object" "__setattr__" (.ref x) [.str name tk,v] [] _ SF.kind SF.split sub (SF.args (.ref x) (.str name tk) v) ?_)
 obtain⟨attr,ha,hr⟩:=FQ.mp S.take;have L3:Looks (CG prog w) h (storeTaker? attr) none:=by
  cases attr with
  |none=>exact .now
  |some a=>
   obtain⟨b,hb,xg⟩:=Es.mp hr;refine(looks_takesIn X hb).andThen ?_
   cases b with
   |false=>exact .now
   |true=>cases xg
 rw[osa_eq,refuse_eq];refine wpAny_bind (wpAny_bind (T.here (wpAny_bind (hm.here ?_))));rw[S.pass];refine wpAny_pure (wpAny_bind (T.here (wpAny_bind ((HI X ha).here (wpAny_bind (L3.here ?_))))));show CH _ _ (storeInOwnDict (.ref x) (.ref C) (.str name tk) name v _) _ _ _;refine wpAny_bind (wpAny_pure (wpAny_bind (wpAny_bind (wpAny_loadPart hx ?_))));rw[hc];refine wpAny_bind ((looks_clsIn X S.cls).here ?_);rw[S.dict];rcases hd with⟨BU,hmA⟩ |⟨dx,BV,uu,yw⟩
 ·rw[BU]
  have yB:(h.push {cls:=.type "dict",data:=.dict #[]}).get? x=some o:=Dc _ hx
  have xY:x≠h.objs.size:=CV (Dh hx);have asp:CH (CG prog w) A.in1 (do
    let d<-alloc {cls:=.type "dict",data:=.dict #[]}
    update x λo=>{o with dict:=some d}
    dictMade o.cls x d) (λr s'=>CH (CG prog w) A.in1 (match r with
      |some d=>storeInDict d (.str name tk) name v
      |none=>noDictFor (.ref x) (.ref C) name attr.isSome) (λfin s'=>match fin with | .done f=>R (.ok f) s' | .again c'=>c'.quiet=true/\codeAny (CG prog w) A c' R s') (λe s'=>R (.error e) s') s') (λe s'=>R (.error e) s') ⟨h,g,d,t,os⟩:=by
   refine wpAny_bind (wpAny_alloc' ?_);refine wpAny_bind (wpAny_update' yB ?_);rw[hc];refine wpAny_pure ?_
   have hgd:((h.push {cls:=.type "dict",data:=.dict #[]}).update x λo=>{cls:=o.cls,dict:=some h.objs.size,data:=o.data,slots:=o.slots}).get? h.objs.size
     =some {cls:=.type "dict",data:=.dict #[]}:=
    (Kv _ _ _ _ xY.symm).trans (IU rfl rfl)
   have u3:((h.push {cls:=.type "dict",data:=.dict #[]}).update x λo=>{cls:=o.cls,dict:=some h.objs.size,data:=o.data,slots:=o.slots}).Ns h.objs.size (λZ=>none):=(ce _ #[] _ hgd rfl (λe he=>CP he (by simp)) (λZ=>rfl))
   unfold storeInDict newKeyGuard;refine wpAny_bind (wpAny_pure (wpAny_bind (wpAny_nsSet1 (Kt u3) λh' zK hs=>?_)));obtain⟨oD,esD,epD,Cf,BR,BP⟩:=zK.count (Hx name v Hy);refine wpAny_bind (JX Cf (by rw[BR];exact ML (Nat.le_trans BP (by rw[Di,Ld,sizeLine_eq];exact EU (0+1) 16777216))) ?_);refine wpAny_pure ?_;have z0:h'.get? x=some {cls:=o.cls,dict:=some h.objs.size,data:=o.data,slots:=o.slots}:= ?_;refine hq h' _ (cY ({cls:=o.cls,dict:=some h.objs.size,data:=o.data,slots:=o.slots}) z0 hc Ay (.inr (aI h.objs.size rfl xY.symm ?_))) (λb ob hbx Z hb=>?_)
    (λuy h₀=>by obtain rfl:o=uy:=C6 (hx.symm.trans h₀);exact(kg _ z0 rfl rfl rfl (λdx e=>by rw[BU] at e;cases e)))
   ·(revert zK;refine r_eeeaaa λo' es ep e1 e2 e3=>r_a λeu e4=>?_);exact(ce o' es ep e1 e2 e3 (bE eu (λy=>by rw[e4 y];by_cases hy:y=name<;>simp[hy,hmA])))
   ·exact(hs.2 b (CV (Dh hb))).trans ((Kv _ _ _ _ hbx).trans (Dc _ hb))
   ·refine(hs.2 x xY).trans (Eu _ yB ?_);have xF:=(CL.get?_some_iff.mp hx).2;obtain⟨oc,od,odt,osl⟩:=o;clear hx hc Ay BU yB;cases odt<;>first |rfl |exact xF
  dsimp only;rw[CQ (by simp[typeHasDict])];rw[hc] at asp
  cases zg:o.data with
  |cls c=>exact CP zg (Ay c)
  |_=>exact asp
 ·rw[BV];refine wpAny_pure ?_;show CH _ _ (storeInDict dx (.str name tk) name v) _ _ _;unfold storeInDict newKeyGuard;refine wpAny_bind (wpAny_pure (wpAny_bind (wpAny_nsSet1 yw λh' zK hs=>?_)));obtain⟨oD,esD,epD,Cf,BR,BP⟩:=zK.count (Hx name v hw);refine wpAny_bind (JX Cf (by rw[BR];exact ML (Nat.le_trans BP (by rw[Di,sizeLine_eq];exact amg uc))) ?_);refine wpAny_pure ?_;refine hq h' _ (cY o ((hs.2 x uu.symm).trans hx) hc Ay (.inr (aI dx BV uu zK))) (λb ob Z hbd hb=>?_)
   (λuy h₀=>(kg uy ((hs.2 x uu.symm).trans h₀) rfl rfl rfl (λZ e=>e)))
  exact(hs.2 b (hbd o dx hx BV)).trans hb
theorem aem{Q:Unit->CI->Prop}{ns:List Str}(X:K.In s.heap)(S:Stores K C name cd)(I:s.heap.Inst x C mA)(hw:JJ mA ns)(uc:ns.length<=1000)
  (hq:∀h' y8,h'.Inst x C (λy=>if y=name then some v else mA y)->
   (∀b o,b≠x->(∀uy dx,s.heap.get? x=some uy->uy.dict=some dx->b≠dx)->s.heap.get? b=some o->h'.get? b=some o)->
   (∀uy,s.heap.get? x=some uy->∃vL,h'.get? x=some vL/\vL.cls=uy.cls/\vL.data=uy.data/\vL.slots=uy.slots/\∀dx,uy.dict=some dx->vL.dict=some dx)->Q () {s with heap:=h',toks:=y8}):
  CH (CG prog w) A (setAttr (.ref x) name v) Q E s:=by
 obtain⟨h,g,d,t,os⟩:=s;have I':=I;obtain⟨o,hx,hc,_⟩:=I;have T:Looks (CG prog w) h (typeOf (.ref x)) (.ref C):=by have:Looks (CG prog w) h (typeOf (.ref x)) o.cls:=(Js hx).andThen .now;rw[hc] at this;exact this
 refine wpAny_bind (wpAny_mkText (wpAny_bind (wpAny_bind (wpAny_bind (T _ _ _ _ (λZ Z e=>e) (HI X S.set _ _ _ _ (λZ Z e=>e) (DB ?_)))))));rw[Mk.slot.bind];refine wpAny_bind (wpAny_pure (wpAny_bind (FX (anU X S I' hw uc λh' y8 a b c=>?_))));exact wpAny_pure (wpAny_pure (hq h' y8 a b c))
end
end
theorem aiA{b:List Stmt}(h:ri k b=true):∃b0 b1 b2,b=[b0,b1,b2]/\((iS (bt k 0) b0&&iS (bt k 1) b1)&&iS (bt k 2) b2)=true:=by
 match b,h with
 |[b0,b1,b2],h=>exact gc b0 b1 b2 rfl h
theorem nO{n:Str}{s:Stmt}(h:iS n s=true):∃p1 p2 p3 p4,s=.Assign [.Attribute (.Name "self" p1) n p2] (.Name n p3) p4:=by have h1:=aa (aa h).1;have h2:=aa (aa h).2;have e:=abE h1.1 h1.2;rw[apk h2.1,eM h2.2] at e;exact(iQ _ _ _ _ e)
theorem aja{o:Obj}{es:Array DictEntry}{ep:Nat}{x:Str}(hd:o.data=.dict es ep)(hk:StrKeys es):lookIn x o=some (nsFind es x):=by
 unfold lookIn;rw[hd];dsimp only;unfold nsFind findBy;rw[<-Array.find?_toList]
 cases q:es.toList.find? (·.key.isStr x) with
 |some e=>rfl
 |none=>
  dsimp only;rw[CQ]
  ·rfl
  ·rw[Kb,Ia];intro e he;obtain⟨n,t,hn⟩:=hk e (J8.mp he);unfold DictEntry.refKey;rw[hn];exact HP
structure yd(h:CL)(x dx C:CF)(mA:Str->Option CE):Prop where
 inst:h.Inst x C mA
 dict:∀o,h.get? x=some o->o.dict=some dx/\notCls o=true
section
variable {x dx:CF}{m mA:Str->Option CE}
theorem rj{n:Str}{v:CE}{cd:ClassData}{p1 p2 p3 p4:Pos}{ns:List Str}{Q:Flow->CI->Prop}(X:K.In s.heap)(S:Stores K C n cd)(Bn:yd s.heap x dx C mA)(hw:JJ mA ns)(uc:ns.length<=1000)
  (hk:env.scope.kind=.function) (hn:s.heap.Ns env.locals m) (k1:env.kindOf "self"=some .local) (k2:env.kindOf n=some .local) (hs:m "self"=some (.ref x)) (hv:m n=some v) (hL:env.locals≠x) (zz:env.locals≠dx)
  (u3:(n==("__debug__":Str))=false)
  (h:∀h' y8,yd h' x dx C (λy=>if y=n then some v else mA y)->(∀b o,b≠x->b≠dx->s.heap.get? b=some o->h'.get? b=some o)->h'.Ns env.locals m->Q .next {s with heap:=h',toks:=y8}):
  CH (CG prog w) A (EW (.Assign [.Attribute (.Name "self" p1) n p2] (.Name n p3) p4) env) Q E s:=by
 refine MM (Gk (Gn hk k2 hn hv (Gk (Gn hk k1 hn hs (aem X S Bn.inst hw uc λh' y8 I' yu wE=>?_)) (by decide))) u3);obtain⟨o,hx,_⟩:=id Bn.inst;have asI:∀b ob,b≠x->b≠dx->s.heap.get? b=some ob->h'.get? b=some ob:=λb ob h1 h2 e=>yu b ob h1 (λuy d' e1 e2=>by rw[(Bn.dict uy e1).1] at e2;cases e2;exact h2) e
 refine h h' y8 ⟨I',λo' e'=>?_⟩ asI ?_
 ·obtain⟨vL,e1,e2,e3,e4,e5⟩:=wE o hx;rw[e1] at e';clear e1 e2 e4;cases e';obtain⟨q1,q2⟩:=Bn.dict o hx;refine⟨e5 dx q1,?_⟩;unfold notCls at q2⊢;rw[e3];exact q2
 ·obtain⟨oL,es,ep,e1,r⟩:=hn;exact(gc oL es ep (asI _ _ hL zz e1) r)
theorem yd.ar0{x dx:CF}(hk:k<=1)(b:yd h x dx (bO k) (λy=>if y=bt k 2 then some c2 else if y=bt k 1 then some c1 else if y=bt k 0 then some c0 else none)):
  ∃ox od,h.get? x=some ox/\h.get? dx=some od/\ox.cls=.ref (bO k)/\ox.dict=some dx/\notCls ox=true/\Fits od k c0 c1 c2:=by
 obtain⟨ox,hx,hc,Ay,hd⟩:=(b.inst);obtain⟨q1,q2⟩:=b.dict ox hx;rcases hd with⟨hd,_⟩ |⟨d',hd,_,od,es,ep,e1,e2,e3,_,e4⟩
 ·rw[q1] at hd;cases hd
 ·rw[q1] at hd;cases hd;refine(dT ox od hx e1 hc q1 (bE q2 ?_));have L:∀y,lookIn y od=some (if y=bt k 2 then some c2 else if y=bt k 1 then some c1 else if y=bt k 0 then some c0 else none):=λy=>by rw[aja e2 e3,e4]
  have wY:k=0\/k=1:=by exact LI.mp hk
  constructor<;>(rw[L];clear hk b hc e4 L;rcases wY with rfl |rfl<;>rfl)
theorem ahr(hk:k<=1):bt k 0≠bt k 1/\bt k 0≠bt k 2/\bt k 1≠bt k 2/\("self":Str)≠bt k 0/\("self":Str)≠bt k 1/\("self":Str)≠bt k 2/\∀i,(bt k i==("__debug__":Str))=false:=by
 have wY:k=0\/k=1:=by exact LI.mp hk
 have dbg:∀i,(bt k i==("__debug__":Str))=false:=λi=>by clear hk;rcases wY with rfl |rfl<;>(rcases i with _ |_ |i<;>first |decide |rfl)
 clear hk;rcases wY with rfl |rfl<;>exact(dy (by decide) (by decide) (by decide) (by decide) (by decide) (by decide) dbg)
theorem ajR{c:tN}(hk:k<=1)(hd:A.depth<500)
  (wO:B.NoLimit) (XB:K.In B) (N:uP K B k) (I:Inv c.prog c.w B c.U μ H s.heap) (hv:tK B μ vs tA) (hl:vs.length=3) (P:tj c s B μ VR (.ok (.inst k vs) H:R AV) Q E):
  CH (CG c.prog c.w) A (call (.ref (bO k)) tA) Q E s:=by
 obtain⟨v0,v1,v2,rfl⟩:∃v0 v1 v2,vs=[v0,v1,v2]:=by
  match vs,hl with
  |[a,b,c],_=>exact(nK a b c rfl)
 obtain⟨c0,c1,c2,rfl,w0,w1,w2⟩:∃c0 c1 c2,tA=[c0,c1,c2]/\VR B μ v0 c0/\VR B μ v1 c1/\VR B μ v2 c2:=by refine o_eeaa hv.c λc0 r e a hv=>o_eeaa hv.o2 λc1 c2 e' b d=>?_;exact(ce c0 c1 c2 (by rw[e,e']) a b d)
 obtain⟨h,g,d,t,os⟩:=s;have X:K.In h:=XB.keeps λb o e=>I.base b o e;obtain⟨fd,body,FD,uE,zF,uM⟩:=(N.fd);obtain⟨a1,a2,a3,a4,a5,a6,BS⟩:=ahr hk;refine FX (make_core (makes_of X N.makes) (HI X N.init) (λself=>bind_fn X self N.fn) (.inl rfl) ?_);refine cX (h.objs.size+1) λx hx=>?_;refine cX ((h.push emptyDict).push (instObj (bO k) h.objs.size)) λh1 hh=>?_;have e1:h1.get? x=some (instObj (bO k) h.objs.size):=by subst hh hx;heap_get
 have e2:h1.get? h.objs.size=some emptyDict:=by clear e1;subst hh;exact Dc _ (IU rfl rfl)
 have uc:h1.objs.size=x+1:=by clear e1 e2;subst hh hx;simp only[HU]
 have xn:∀b o,h.get? b=some o->h1.get? b=some o:=λb o e=>by clear e1 e2 uc;subst hh;exact Dc _ (Dc _ e)
 have u3:(dz k).Nodup:=by simp only[dz,Ge,CX,DK,DM,Fx,Il,and_true,not_false_eq_true];exact⟨⟨a4,a5,a6⟩,⟨a1,a2⟩,a3⟩
 obtain⟨o,ho,zg⟩:=(FD.ob);refine JO (binds:=(dz k).zip [.ref x,c0,c1,c2]) (by show A.depth+1<1000;exact Nat.lt_of_le_of_lt hd (by decide)) (xn _ _ (I.base _ _ ho)) zg (wO.keeps λb o e=>xn _ _ (I.base b o e)) (FD.code.keeps λb o e=>xn _ _ (I.base b o e)) FD.body
  (lF FD.args FD.dflt u3 rfl) uE (λy hy=>.inl (uM _ (FH (a:=y.1) (b:=y.2) hy).1)) (λtz X1=>?_) FD.co FD.gen FD.kind
 obtain⟨h2,t2,rfl,vK⟩:=(X1.done);have hm:∀y v,(y,v)∈(dz k).zip [Dp x,c0,c1,c2]->bindL (C0 fd h1.objs.size (ju k)).kindOf ((dz k).zip [Dp x,c0,c1,c2]) (λZ=>none) y=some v:=λy v hy=>(mZ (m':=λZ=>none) (by rw[Gc (by simp[dz])];exact u3) hy).1 (uM _ (FH (a:=y) (b:=v) hy).1)
 have AE:=X1.toInCall.ns;have BJ:h1.objs.size≠x:=by exact amh uc
 have zz:h1.objs.size≠h.objs.size:=by exact ami hx uc
 have xY:h.objs.size<x:=by exact amj hx
 have kS:fd.scope.names.lookup ("self":Str)=some .local:=uM _ (by simp[dz])
 have k0:fd.scope.names.lookup (bt k 0)=some .local:=uM _ (by simp[dz]);have k1:fd.scope.names.lookup (bt k 1)=some .local:=uM _ (by simp[dz]);have k2:fd.scope.names.lookup (bt k 2)=some .local:=uM _ (by simp[dz])
 have mS:=hm "self" (.ref x) (by simp[dz])
 have m0:=hm (bt k 0) c0 (by simp[dz]);have m1:=hm (bt k 1) c1 (by simp[dz]);have m2:=hm (bt k 2) c2 (by simp[dz]);refine aid λA' Q' E' kQ=>?_;obtain⟨b0,b1,b2,e,zF⟩:=aiA zF;subst e
 ·obtain⟨i0,i1⟩:=aa (aa zF).1;have i2:=(aa zF).2;(obtain⟨p1,p2,p3,p4,zq4⟩:=nO i0;clear i0;subst zq4);(obtain⟨q1,q2,q3,q4,zq4⟩:=nO i1;clear i1;subst zq4);(obtain⟨r1,r2,r3,r4,zq4⟩:=nO i2;clear i2;subst zq4);obtain⟨cd0,S0⟩:=N.st 0 (by decide);obtain⟨cd1,S1⟩:=N.st 1 (by decide);obtain⟨cd2,S2⟩:=N.st 2 (by decide);have as6:yd h2 x h.objs.size (bO k) (λZ=>none):=by
   refine⟨(cY _ (vK _ _ e1) rfl (λc=>by simp) (.inr (aI h.objs.size rfl (CV xY) (Kt (ce _ #[] _ (vK _ _ e2) rfl (λe he=>CP he (by simp)) (λZ=>rfl)))))),λo e=>?_⟩;rw[vK _ _ e1] at e;cases e;exact⟨rfl,rfl⟩
  have X2:K.In h2:=X.keeps λb o e=>vK _ _ (xn _ _ e);have old:∀b o,K.lookup b=some o->b≠x/\b≠h.objs.size:=λb o e=>by have:=Dh (X _ _ e);exact⟨CV (CT this xY),CV this⟩
  refine Fy (rj X2 S0 as6 Hy (by decide) FD.kind AE kS k0 mS m0 BJ zz (BS 0) λh3 t3 ar6 xp Be=>?_);have X3:K.In h3:=λb o e=>xp _ _ (old _ _ e).1 (old _ _ e).2 (X2 _ _ e);refine Fy (rj (s:=⟨h3,g,d,t3,os⟩) X3 S1 ar6 (Hx _ _ Hy) (by simp) FD.kind Be kS k1 mS m1 BJ zz (BS 1) λh4 t4 ar7 arY ns4=>?_);have X4:K.In h4:=λb o e=>arY _ _ (old _ _ e).1 (old _ _ e).2 (X3 _ _ e);refine Fy (rj (s:=⟨h4,g,d,t4,os⟩) X4 S2 ar7 (Hx _ _ (Hx _ _ Hy)) (by simp) FD.kind ns4 kS k2 mS m2 BJ zz (BS 2) λh5 t5 ar8 yD ns5=>?_);refine Fk (kQ _ _ ⟨rfl,?_⟩);have asT:∀b o,h.get? b=some o->h5.get? b=some o:=λb o e=>by have:=Dh e;have n1:=CV (CT this xY);have n2:=CV this;exact yD _ _ n1 n2 (arY _ _ n1 n2 (xp _ _ n1 n2 (vK _ _ (xn _ _ e))))
  refine o_eeaaaa (ar8.ar0 hk) λox od f1 f2 f3 f4=>r_a λf5 f6=>?_;have J:Inv c.prog c.w B c.U μ H h5:=I.ext asT;have nM:∀b,h.objs.size<=b->b∉μ:=λb hb hm=>CY _ (Nat.lt_of_lt_of_le (I.lt hm) hb);have nU:∀b,h.objs.size<=b->∀p,¬c.U b p:=λb hb p hu=>CY _ (Nat.lt_of_lt_of_le (I.zO hu) hb);obtain⟨B1,g1,g2,J1⟩:=J.vQ f1 (nM x (CU xY)) (nU x (CU xY));obtain⟨B2,g3,g4,J2⟩:=J1.vQ f2 (nM _ (Nat.le_refl _)) (nU _ (Nat.le_refl _));have st:B.StaysIn B2:=λb o e=>g3 _ _ (g1 _ _ e);exact P B2 μ h5 t5 (.ref x) st (Pre.refl _) J2 (.inst k x v0 v1 v2 c0 c1 c2 ⟨(ce ox _ od (g3 _ _ g2) f3 f4 (bT f5 g4 f6))⟩ (w0.mono st (Pre.refl _)) (w1.mono st (Pre.refl _)) (w2.mono st (Pre.refl _)))
end
section
variable {d:Drawn}{t:Nat}
variable {nm q:Str}{N:CF}{bs bm:List CE}{xU:Bool}{sn:List Str}{sub:List CE}{ab:Bool}{col:Option Bool}{dd:Option CF}{k0 k1 k2 k3 k5:Option CE}
theorem aqZ{Q:Unit->CI->Prop}(hb:bm.contains (.type "Exception")=true)(hC:h.get? C=some (excClassObj nm q C N bs bm xU sn sub ab col dd k0 k1 k2 k3 k5 "Exception.__new__"))
  (hq:Q () ⟨h,g,d,t,os⟩):CH M A (Fi "Exception.__new__" ⟨.ref C::rest,[]⟩) Q E ⟨h,g,d,t,os⟩:=by
 have F:=Hv
 have asy:(Dp C::bm).contains (.type "Exception")=true:=by rw[FG,hb,FY]
 have atQ:=F.noStar;simp only[Fi,F.newKind,F.newSplit,F.newRow]
 repeat (first |refine EX hC ?_ |(refine Gl hC ?_;rw[asy]) |refine wpAny_staticBase_exc hC ?_ |refine M0 hC ?_ |simp -iota only[bne_self_eq_false,Fn,Fj] |wp_step)
 exact hq
theorem aq4{R:Result->CI->Prop}(hb:bm.contains (.type "Exception")=true)(ha:bm.contains (.type "AttributeError")=false)(hn:bm.contains (.type "NameError")=false)
  (hC:h.get? C=some (excClassObj nm q C N bs bm xU sn sub ab col dd k0 k1 k2 k3 k5 "Exception.__new__"))
  (hq:R (.ok (.ret (.ref (h.objs.size+1)))) ⟨(h.push {cls:=.type "tuple",data:=.seq rest.toArray}).push
   {cls:=.ref C,data:=.fields #[.ref h.objs.size,.none,.none,.none,.bool false,.none]},g,d,t,os⟩) (arW:rest.length<=sizeLine):
  codeAny (CG prog w) A (.builtin "Exception.__new__" ⟨.ref C::rest,[]⟩) R ⟨h,g,d,t,os⟩:=by
 have F:=Hv;have arV:=F.ends
 have zD:(Dp C::bm).contains (.type "Exception")=true:=by rw[FG,hb,FY]
 have hcA:(Dp C::bm).contains (.type "AttributeError")=false:=by rw[FG,ha];rfl
 have hcN:(Dp C::bm).contains (.type "NameError")=false:=by rw[FG,hn];rfl
 refine codeAny_builtinAt F.entry ?_;unfold Builtin.«BaseException.__new__»;refine Mu ?_;show PySem.wpAt _ _ _ (stack>>=_) _ _ _;refine Mu (PySem.wpAt_stack λp below=>Mv ?_)
 wp_walk
 refine Mv ?_;rw[F.owner]
 repeat (first |with_reducible refine wpAny_madeHere_exc F.canon hC ?_ |with_reducible refine EX hC ?_ |(with_reducible refine Gl hC ?_;first |rw(occs:=.all) [zD] |rw(occs:=.all) [hcA] |rw(occs:=.all) [hcN]) |wp_step)
 show R _ _;rw[HU];exact hq
theorem aq2{fI:CF}(hb:bm.contains (.type "Exception")=true)(ha:bm.contains (.type "AttributeError")=false)(hn:bm.contains (.type "NameError")=false)
  (hC:h.get? C=some (excClassObj nm q C N bs bm xU sn sub ab col dd k0 k1 k2 k3 k5 "Exception.__new__")) (X:K.In h) (hi:findIn K (.ref C) "__init__"=some (some (.ref fI))) (hf:typeIn K (.ref fI)=some (.type "function")) (arW:rest.length<=sizeLine)
  (hq:∀h' e,CL.MadeExcOf h h' e (.ref C) rest->
   CH (CG prog w) (A.under (.builtin "type.__call__" ⟨.ref C::rest,[]⟩)) (call (.ref fI) (.ref e::rest)) (λr s'=>r=.none/\Q (.ref e) s') E ⟨h',g,d,t,os⟩):
  CH (CG prog w) A (call (.ref C) rest) Q E ⟨h,g,d,t,os⟩:=by
 have f1:=tc_lookup;have f2:=tc_bind (.ref C)
 have hT:(⟨h,g,d,t,os⟩:CI).TypeIs (.ref C) "type":=(ae _ hC rfl)
 refine FX (HG ?_);show CH _ _ (callAny (.ref C) _) _ _ _
 repeat (any_goals (first |assumption |with_reducible refine EX hC ?_ |wp_step))
 refine⟨rfl,?_⟩;refine codeAny_call_builtin_at (IP _ (by decide+kernel)) entry_typeCall (wpAny_check_type_call_sub hC ?_)
 repeat (first |with_reducible refine EX hC ?_ |with_reducible refine M0 hC ?_ |wp_step)
 refine codeAny_call_builtin_code (IP _ Hv.quiet) (aqZ hb hC ?_);refine aq4 hb ha hn hC ?_ arW;show CH _ _ _ _ _ _
 have keep:∀b o,h.get? b=some o->((h.push {cls:=.type "tuple",data:=.seq rest.toArray}).push {cls:=.ref C,data:=.fields #[.ref h.objs.size,.none,.none,.none,.bool false,.none]}).get? b=some o:=λb o e=>Dc _ (Dc _ e)
 have yV:((h.push {cls:=.type "tuple",data:=.seq rest.toArray}).push
   {cls:=.ref C,data:=.fields #[.ref h.objs.size,.none,.none,.none,.bool false,.none]}).get? (h.objs.size+1)=some
   {cls:=.ref C,data:=.fields #[.ref h.objs.size,.none,.none,.none,.bool false,.none]}:=by heap_get
 have BO:(Dp C::bm).contains (.ref C)=true:=by simp
 have asr:=keep _ _ hC;have ar5:=X.keeps keep;unfold isInstance
 repeat (first |with_reducible refine EX yV ?_ |(refine Gl asr ?_;rw[BO]) |wp_step)
 show CH _ _ (typeLookup (.ref C) _) _ _ _;refine(HI ar5 hi).here ?_;refine DB (wpAny_bind ((bind_fn ar5 _ hf).here (wpAny_bind (C7 (hq _ (h.objs.size+1) ⟨keep,IT (FL _),h.objs.size,yV,IT (Nat.le_refl _),?_⟩) (λr s' hr=>?_) λZ Z x=>x))))
 ·exact Dc _ (IU rfl rfl)
 ·obtain⟨rfl,hQ⟩:=hr
  wp_walk
  exact hQ
end
theorem aqX{b:List Stmt}(h:th b=true):∃p1 ap p2 p3 cp p4 p5 p6 p7 p8,b=[.Expr (.Call (.Attribute (.Name "Exception" p1) "__init__" ap) [.Name "self" p2,.Name "message" p3] [] cp) p4,.Assign [.Attribute (.Name "self" p5) "message" p6] (.Name "message" p7) p8]/\(ap.endLine==cp.line)=true:=by have h1:=aa (aa h).1;have h2:=aa h1.1;have h3:=aa h1.2;obtain⟨p5,p6,p7,p8,e2⟩:=nO (aa h).2;have e1:=(qJ h3.1).trans (CN (λe=>Stmt.Expr e (ag (bL b)).p) (agf h3.2));exact(dU _ _ _ _ _ _ (nN p5 p6 p7 p8 ((ng h2.1).trans ((CN (bL b::·) ((r8 h2.2).trans (CN (λx=>[x]) e2))).trans (CN (·::_) e1))) ((aa h3.2).2)))
section
theorem ahp{Q:CE×List CE->CI->Prop}(h:Q (.builtin "Exception.__init__",[]) {s with toks:=s.toks+1}):CH (CG prog w) A (getMethod (.type "Exception") "__init__" pl) Q E s:=by
 have X:Frag.In [] s.heap:=λa o e=>by cases e
 have asR:opaqueClassAbove (.type "Exception")=pure none:=by unfold opaqueClassAbove;dsimp only;rw[show Manifest.isStub "Exception"=false by decide+kernel];rfl
 have ht:typeOf (.type "Exception")=pure (.type "type"):=by first |rfl |kernel_rfl
 have L0:Looks (CG prog w) s.heap (typeOf (.type "Exception")) (.type "type"):=Iq ht
 have hg:findIn [] (.type "type") "__getattribute__"=some (some (.builtin "type.__getattribute__")):=type_tga
 unfold getMethod specialOf;refine wpAny_bind (wpAny_bind (L0.here ((HI X hg).here ?_)));dsimp only;rw[CM canon_tga];refine wpAny_bind (C7 (Q:=λv=>Q (v,[])) (E:=E) ?_ (λZ Z z=>wpAny_pure z) λZ Z z=>z)
 have LO:Looks (CG prog w) s.heap (opaqueClassAbove (.type "Exception")) none:=Iq asR
 refine cls_open (r:=.val (.builtin "Exception.__init__")) X LO L0 hg (looks_hook X (r:=none) (by rfl)) (by show subIn [] _ _=_;rfl) (by kernel_rfl) ?_
 exact wpAny_pure (by show CH _ _ (handedOut _) _ _ _;rw[handedOut_of (show handedIn (.builtin "Exception.__init__")=true by kernel_rfl)];exact wpAny_pure h)
variable {nm q:Str}{N e:CF}{bs bm:List CE}{xU:Bool}{sn:List Str}{sub:List CE}{ab:Bool}{col:Option Bool}{dd:Option CF}{k0 k1 k2 k3 k5:Option CE}{newId:String}
theorem aq0{d:Drawn}{t:Nat}{Q:Unit->CI->Prop}(hb:bm.contains (.type "Exception")=true)
  (hC:h.get? C=some (excClassObj nm q C N bs bm xU sn sub ab col dd k0 k1 k2 k3 k5 newId)) (he:h.get? e=some oe) (atd:oe.cls=.ref C) (hq:Q () ⟨h,g,d,t,os⟩):
  CH M A (Fi "Exception.__init__" ⟨.ref e::rest,[]⟩) Q E ⟨h,g,d,t,os⟩:=by
 have F:=Hv
 have zD:(Dp C::bm).contains (.type "Exception")=true:=by rw[FG,hb,FY]
 have atv:=F.noStar;simp only[Fi,F.initKind,F.initSplit,F.initRow]
 repeat (first |(with_reducible refine EX he ?_;rw[atd]) |with_reducible refine EX hC ?_ |(with_reducible refine Gl hC ?_;rw[zD]) |wp_step)
 refine wpAny_onRaise ?_
 rw[show ∀(a b:String)(n:Nat),Bind.check ⟨.positional,"*","Exception",.self,[⟨"args",.varPos,false⟩]⟩ a b n (Ij (λx=>x.fst) ({pos:=Dp e::rest}:Args).kw)=pure () from
  λa b n=>check_star_args _ _ _ _ _ _]
 exact wpAny_pure hq
theorem aqY{d:Drawn}{t:Nat}{T:CF}{v:CE}(hb:bm.contains (.type "Exception")=true)
  (hC:h.get? C=some (excClassObj nm q C N bs bm xU sn sub ab col dd k0 k1 k2 k3 k5 newId)) (he:h.get? e=some {cls:=.ref C,data:=.fields #[.ref T,.none,.none,.none,.bool false,.none]})
  (hq:∀h' T',(∀b o,b≠e->h.get? b=some o->h'.get? b=some o)->h'.get? e=some {cls:=.ref C,data:=.fields #[.ref T',.none,.none,.none,.bool false,.none]}->Q .none ⟨h',g,d,t,os⟩):
  CH (CG prog w) A (call (.builtin "Exception.__init__") [.ref e,v]) Q E ⟨h,g,d,t,os⟩:=by
 have F:=Hv;refine FX (MF F.init.plain F.initEntry (aq0 hb hC he rfl ?_))
 wp_walk
 refine hq _ h.objs.size (λb o BN hb=>?_) ?_
 ·rw[Ek _ _ (Du BN)];exact Dc _ hb
 ·rw[Eu _ (Dc _ he) rfl];rfl
end
section
variable {c:tN}
theorem aq1{e T:CF}{v:CE}(XF:uO K B k)(X:K.In B)(wO:B.NoLimit)(yw:∃gg b,B.Ns Dm gg/\B.Ns Ej b/\gg "Exception"=none/\b "Exception"=some (.type "Exception"))
  (hB:B.StaysIn h) (hk:∀b o,h.get? b=some o->s.heap.get? b=some o) (hd:A.depth<500) (nE:h.get? e=none) (he:s.heap.get? e=some {cls:=.ref (aT k),data:=.fields #[.ref T,.none,.none,.none,.bool false,.none]})
  (hq:∀h5 t5,(∀b o,h.get? b=some o->h5.get? b=some o)->(∃oe vs,h5.get? e=some oe/\oe.cls=.ref (aT k)/\oe.data=.fields vs/\vs[1]?=some .none/\vs[2]?=some .none)->Q .none {s with heap:=h5,toks:=t5}):
  CH (CG c.prog c.w) A (call (.ref 35) [.ref e,v]) Q E s:=by
 obtain⟨fd,body,FD,uE,zF,uM,atk⟩:=(XF.fd);(refine o_eeeeee (aqX zF) λp1 ap p2 p3 cp p4=>r_eeeea λp5 p6 p7 p8 zq10 asK=>?_;clear zF;subst zq10);(refine o_eaeeee XF.cls.at' λoC hC nm q N bs=>r_eeeeee λbm sn sub ab col dd=>r_eeeeea λk0 k1 k2 k3 k5 zq17=>r_aaaa λb1 b2 b3 b4 b5=>?_;subst zq17);obtain⟨gg,bb,n1,n2,n3,n4⟩:=yw;obtain⟨o,ho,zg⟩:=(FD.ob);obtain⟨hh,g,d,t,os⟩:=s;have st:B.StaysIn hh:=λb o e=>hk _ _ (hB _ _ e)
 have kS:fd.scope.names.lookup ("self":Str)=some .local:=uM _ (by simp[fj])
 have kM:fd.scope.names.lookup ("message":Str)=some .local:=uM _ (by simp[fj])
 have u3:fj.Nodup:=by decide
 refine FX (JO (binds:=fj.zip [.ref e,v]) (by show A.depth<1000;exact CT hd (by decide)) (st _ _ ho) zg (wO.keeps st) (FD.code.keeps st) FD.body
  (lF FD.args FD.dflt u3 rfl) uE (λy hy=>.inl (uM _ (FH (a:=y.1) (b:=y.2) hy).1)) (λtz X1=>?_) FD.co FD.gen FD.kind)
 obtain⟨h2,t2,rfl,vK⟩:=(X1.done);have hm:∀y v',(y,v')∈fj.zip [Dp e,v]->bindL (C0 fd hh.objs.size 35).kindOf (fj.zip [Dp e,v]) (λZ=>none) y=some v':=λy v' hy=>(mZ (m':=λZ=>none) (by rw[Gc (by simp[fj])];exact u3) hy).1 (uM _ (FH (a:=y) (b:=v') hy).1)
 have mS:=hm "self" (.ref e) (by simp[fj])
 have mM:=hm "message" v (by simp[fj])
 have AE:=X1.toInCall.ns;have hLe:hh.objs.size≠e:=C2 (Dh he);have Bd:∀b o,B.get? b=some o->h2.get? b=some o:=λb o e=>vK _ _ (st _ _ e)
 refine Fy (JT (rA (vis:= [(0,("self":Str)),(1,("message":Str))]) (nk:= []) (ps:=.cons (.var 0) (.cons (.var 1) .nil)) ?_ ?_ ?_) ?_ rfl)
 ·exact(gM rfl ⟨rfl,G9 _,(show fy "self"=true by decide)⟩ rfl ⟨rfl,List.Mem.tail _ (G9 _),(show fy "message"=true by decide)⟩ rfl)
 ·simp only[fv,asK];rfl
 ·refine Lu FD.kind atk ?_ (by decide);refine MH (n1.keeps Bd |> λx=>by rw[show(C0 fd hh.objs.size 35).globals=Dm from FD.glob];exact x) n3 (n2.keeps Bd |> λx=>by rw[show(C0 fd hh.objs.size 35).builtins=Ej from FD.blt];exact x) n4 ?_;intro pl;refine ahp ?_
  refine HD (P:=uZ (.builtin "Exception.__init__")) rfl (λh x=>x.wq h) ?_
  refine JR (IB (Gk (Gn FD.kind kS AE mS (IB (Gk (Gn FD.kind kM AE mM (spliced_nil ⟨.inl ⟨_,rfl⟩,?_⟩)) (by decide)))) (by decide)));refine aqY b1 (Bd _ _ hC) (vK _ _ he) λh3 T' xp e3=>?_;refine Fy (MM ?_);obtain⟨oL,es,ep,q1,q2⟩:=AE;have Be:h3.Ns (C0 fd hh.objs.size 35).locals _:=(gc oL es ep (xp _ _ hLe q1) q2);refine Gk (Gn FD.kind kM Be mM (Gk (Gn FD.kind kS Be mS ?_) (by decide))) (by decide);have Cn:∀b o,h.get? b=some o->h3.get? b=some o:=λb o q=>xp _ _ (by rintro rfl;rw[nE] at q;cases q) (vK _ _ (hk _ _ q));obtain⟨cd,S⟩:=XF.st;refine aem (s:=⟨h3,g,d,_,os⟩) (X.keeps λb o q=>Cn _ _ (hB _ _ q)) S (mA:=λZ=>none) (cY _ e3 rfl (λc=>by simp) (.inl ⟨rfl,λZ=>rfl⟩)) Hy (by decide) λh5 t5 I5 yD hs5=>?_;refine Fk ?_;obtain⟨vL,f1,f2,f3,f4,_⟩:=hs5 _ e3;exact hq h5 t5 (λb o q=>yD _ _ (by rintro rfl;rw[nE] at q;cases q) (λuy dx z1 z2=>by rw[e3] at z1;cases z1;cases z2) (Cn _ _ q)) (dT vL _ f1 f2 f3 rfl rfl)
 ·unfold interactive;rw[show(C0 fd hh.objs.size 35).scope.kind=.function from FD.kind];rfl
end
section
theorem aq5{x:Sem CE}{Q:Flow->CI->Prop}(hh:A.handled=none)
  (h:CH M A x (λv tz=>∃e oe vs,v=.ref e/\uW tz.heap C/\
   tz.heap.get? e=some oe/\oe.cls=.ref C/\oe.data=.fields vs/\vs[1]?=some .none/\E (.ref e) tz) E s):
  CH M A (raiseStmt env (some x) none) Q E s:=by
 unfold raiseStmt;refine wpAny_bind (C7 h (λv tz tC=>?_) λZ Z x=>x);(revert tC;refine r_eeeaaa λe oe vs zq3 zq4 he=>r_aaa λhc hd h1 hE=>?_;subst zq3;obtain⟨oC,hC,nm,q,N,bs,bm,sn,sub,ab,col,dd,k0,k1,k2,k3,k5,rfl,_,arT,_⟩:=zq4)
 have zD:(Dp C::bm).contains (.type "BaseException")=true:=by rw[FG,arT,FY]
 obtain⟨oc,od,odt,osl⟩:=oe;dsimp only at hc hd;subst hc hd;obtain⟨hp,g,d,tk,os⟩:=tz;have hf:∀{Q:Unit->CI->Prop},Q () ⟨hp,g,d,tk,os⟩->CH M A (setFlight (.ref e) none) Q E ⟨hp,g,d,tk,os⟩:=λhQ=>by unfold setFlight;refine wpAny_bind (EP he rfl h1 ?_);rw[CQ (by decide)];exact wpAny_pure hQ
 repeat (first |with_reducible refine EX he ?_ |with_reducible refine EX hC ?_ |(with_reducible refine Gl hC ?_;rw[zD]) |with_reducible refine hf ?_ |wp_step)
 exact wpAny_raiseNew_none hh hE
end
section
variable {c:tN}{n:Nat}
theorem Ex.data{o p:Obj}(h:Ex o)(e:p.data=o.data):Ex p:=by
 rcases h with⟨vs,q⟩ |⟨xs,n,q⟩
 ·exact .inl ⟨vs,e.trans q⟩
 ·exact .inr (cK xs n (e.trans q))
theorem aho{fs:List Env}{h5:CL}{e:CF}(I:Inv c.prog c.w B U μ H h)(hf:∀env∈fs,env.scope.kind≠.module/\∃L o,env.frame=some L/\U L o/\¬Ex o)
  (keep:∀b o,h.get? b=some o->h5.get? b=some o) (nE:h.get? e=none) (he:∃oe vs,h5.get? e=some oe/\oe.cls=.ref (aT k)/\oe.data=.fields vs/\vs[1]?=some .none/\vs[2]?=some .none):hJ U fs k B μ h5 e:=by
 obtain⟨oe,vs,g1,g2,g3,g4,g5⟩:=he;have off:∀env∈fs,∀a,env.frame=some a->B.get? a=none/\a∉μ/\∀o,U a o->¬Ex o:=λenv hm a ha=>by
  refine o_aeeaa (hf env hm) λZ L o q1 q2 q3=>?_;rw[ha] at q1;cases q1;refine o_aaea (I.us _ _ q2) λr1 r2 sl r3 Z=>?_;refine⟨r1,r2,λo' hu hx=>?_⟩;refine o_aaea (I.us _ _ hu) λZ Z Cx r3' Z=>?_;rw[r3] at r3';have:o.data=o'.data:=by have:=CN JC (C6 r3');exact this
  exact q3 (hx.data this)
 refine(gb (gX h λa=>∀env∈fs,env.frame≠some a) (λa o q=>cP.mpr ⟨I.base _ _ q,λenv hm ha=>?_⟩) (λa ha o q=>?_) (λa o hu hx=>?_) (λa o q=>keep _ _ (cP.mp q).1) ?_ (eH ?_ oe vs g1 g2 g3 (bE (.inl g4) g5)))
 ·rw[(off env hm a ha).1] at q;cases q
 ·obtain⟨i,hi⟩:=Eg.mp ha;have hl:i<H.length:=I.len▸(List.getElem?_eq_some_iff.mp hi).1;obtain⟨ob,wQ,_⟩:=I.objs i a H[i] hi (List.getElem?_eq_getElem hl);rw[keep _ _ wQ] at q;cases q;exact cP.mpr ⟨wQ,λenv hm xF=>(off env hm a xF).2.1 ha⟩
 ·exact cP.mpr ⟨I.at_ hu hx,λenv hm xF=>(off env hm a xF).2.2 o hu hx⟩
 ·cases q:(gX h λa=>∀env∈fs,env.frame≠some a).get? e with
  |none=>rfl
  |some o=>rw[(cP.mp q).1] at nE;cases nE
 ·have key:∀(l:List Env),(∀env∈l,env∈fs)->h5.FunFrames (gX h λa=>∀env∈fs,env.frame≠some a) l:=by
   intro l
   induction l with
   |nil=>intro _;trivial
   |cons env l ih=>intro hl;refine o_aeeaa (hf env (hl env Dy)) λq0 L o q1 q2 q3=>?_;refine o_aaea (I.us _ _ q2) λZ Z sl r3 Z=>?_;exact⟨q0,(jx L _ q1 (oV λz=>z env (hl env Dy) q1) (keep _ _ r3) (λvs q=>q3 (.inl ⟨vs,q⟩))),ih λx hx=>hl x (Dt _ hx)⟩
  exact key fs λZ h=>h
theorem apL{m:Str}{cp:Pos}(hg:glob? nk (cV k)=true)(hk:k<=2):dE c n vis nk (.raise k) (.Raise (some (.Call (.Name (cV k) np) [.Constant (.str m) q cp] [] p)) none pos):=λU0 A env ρ B μ H U s Q E T F G P=>by
 replace P:=tE.to P E5.raise
 split at P
 ·exact P.elim
 ·rename_i vU
  have hh:A.handled=none:=by
   rcases T.u3 with⟨_,h⟩ |⟨h,_⟩
   ·exact h
   ·exact CP h vU
  have S:=T.es F;have D:=cL F G;refine o_eeaaaa G.ns λg b n1 n2 Z Z=>r_aaaaaa λZ n6 Z Z Z n10 n11=>?_;obtain⟨K,XK,_,XF⟩:=(G.kx);have XF:=XF k hk;(refine o_eaeeee XF.cls.at' λoC hC nm q' N bs=>r_eeeeee λbm sn sub ab col dd=>r_eeeeea λk0 k1 k2 k3 k5 zq17=>r_aaaa λb1 b2 b3 b4 b5=>?_;subst zq17);rw[arm_exec_Raise];refine wpAny_bind (DT ?_);show CH _ _ (raiseStmt env (some (do let v<-eval (.Call (.Name (cV k) np) [.Constant (.str m) q cp] [] p) env;standAt pos;pure v)) none) _ _ _
  refine aq5 (C:=aT k) hh (wpAny_bind (FA rfl (eg (c:=c.tF U) S D hg (ax g b n1 n2 (.inl (n6 k hk))) ?_)));refine jI (c:=c.tF U) (n:=n) (vis:=vis) (nk:=nk) (ps:=.cons (.tO m) .nil) (m:=4) (ρ:=ρ) (.cons (aaN (e:=.Constant (.str m) q cp) rfl adW λZ Z=>rfl) .nil) S D ?_;dsimp only[E2.cons,E1.tO,E2.nil];intro B' tB h' t' tA hB tQ I' hv;obtain⟨cv,rfl,hv'⟩:∃cv,tA=[cv]/\VR B' tB (.str m) cv:=hv.o1;refine⟨.inr (.inr (.inr (ae K (XK.keeps λa o e=>I'.base _ _ (hB _ _ e)) XF.keep))),?_⟩;show CH _ _ (call (.ref (aT k)) [cv]) _ _ _;have X':K.In h':=XK.keeps λa o e=>I'.base _ _ (hB _ _ e);have st:B.StaysIn h':=λa o e=>I'.base _ _ (hB _ _ e);refine aq2 b1 b3 b4 (st _ _ hC) X' XF.init XF.fn (by rw[fG];simp) λh1 e hm=>?_;obtain⟨T',e1,_,_⟩:=(hm.there);refine C7 (Q:=λr s'=>r=.none/\∃h5 t5,s'={s with heap:=h5,toks:=t5}/\(∀b o,h'.get? b=some o->h5.get? b=some o)/\∃oe vs,h5.get? e=some oe/\oe.cls=.ref (aT k)/\oe.data=.fields vs/\vs[1]?=some .none/\vs[2]?=some .none)
   (aq1 (c:=c) (s:={s with heap:=h1,toks:=t'}) (h:=h') XF XK G.nolimit (jx g b n1 n2 n10 n11) st hm.keeps (by show A.depth+1<500;have:=T.deep;exact amk this) hm.new e1 λh5 t5 a1 a2=>(jw rfl h5 t5 rfl a1 a2)) (λr s' hr=>⟨hr.1,?_⟩) λZ Z e=>e
  (revert hr;refine r_aeeaae λZ h5 t5 zq3 a1 oe=>r_eaaaa λvs a2 a3 a4 a5 a6=>?_;subst zq3);refine wpAny_bind (DT (wpAny_pure (ce e oe vs rfl (XF.cls.mono λa o q=>a1 _ _ (st _ _ q)) a2 (bY a3 a4 a5 ?_))));have I5:=I'.ext a1;exact P B' tB U h5 t5 e ρ hB tQ (F.step hB tQ I5) (aho (c:=c) I' S.xO.2 a1 hm.new (dT oe vs a2 a3 a4 a5 a6))
end
def ExcAt(U:tD)(fs:List Env)(k:Nat)(B:CL)(μ:List CF)(h:CL)(e:CF)(fl:CE):Prop:=
 ∃base:CL,B.StaysIn base/\(∀a∈μ,∀o,h.get? a=some o->base.get? a=some o)/\(∀a o,U a o->Ex o->base.get? a=some o)/\base.StaysIn h/\base.get? e=none/\h.FunFrames base fs/\
  mJ base h e (.ref (aT k)) fl (some .none)
section
variable {c:tN}
theorem acp{fs:List Env}{e:CF}{fl:CE}{Q:Unit->CI->Prop}(I:Inv c.prog c.w B U μ H s.heap)(X:ExcAt U fs k B μ s.heap e fl)
  (h:∀h',Inv c.prog c.w B U μ H h'->ExcAt U fs k B μ h' e .none->Q () {s with heap:=h'}):CH (CG c.prog c.w) A (setFlight (.ref e) none) Q E s:=by
 (revert X;refine r_eaaaaa λbase b1 b2 b3 b4 b5=>r_aeeeee λb6 oe vs T oT ts=>r_aaaaaa λg1 g2 g3 g4 g5 g6=>r_aaa λg7 g8 g9 yI=>?_);have uc:3<ts.size:=(Gp.mp yI).1;have other:∀b,b≠T->(s.heap.update T (FP (·.setIfInBounds 3 Do))).get? b=s.heap.get? b:=λb hb=>Ek _ _ (Du hb);have uI:∀b o,s.heap.get? b=some o->(∀vs,o.data≠.fields vs)->b≠T:=λb o hb wC q=>by rw[q,g8] at hb;injection hb with hb;subst hb;exact wC ts g9
 have hB:∀b o,base.get? b=some o->b≠T:=λb o e q=>by rw[q,g6] at e;cases e
 have st:base.StaysIn (s.heap.update T (FP (·.setIfInBounds 3 Do))):=λb o e=>(other b (hB b o e)).trans (b4 b o e);unfold setFlight;refine wpAny_bind (EP g1 g3 g5 ?_);rw[CM (show(Dp T !=Do)=true from by simp)];refine Go g8 g9 uc (h _ (I.slots b1 b2 b3 st λb o e hn=>⟨o.slots,(other b (uI b o e hn)).trans e⟩) (gb base b1 (λa ha o e=>?_) b3 st b5 (bE (b6.of_keeps λb o e hn=>(ae o ((other b (uI b o e hn)).trans e) rfl)) ?_)))
 ·obtain⟨i,hi⟩:=Eg.mp ha;have hl:i<H.length:=I.len▸(List.getElem?_eq_some_iff.mp hi).1;obtain⟨ob,wQ,_⟩:=I.objs i a H[i] hi (List.getElem?_eq_getElem hl);have q:=b2 a ha ob wQ;have q2:=(st _ _ q).symm.trans e;clear wQ;cases q2;exact q
 ·exact(iR oe vs T _ _ ((other e (Du g7)).trans g1) (dy g2 g3 g4 g5 g6 g7 (bT (Eu _ g8 (Ht (Gi g9 _))) (Gi g9 _) (by simp[uc]))))
theorem ExcAt.free{fs:List Env}{e:CF}{fl:CE}(I:Inv c.prog c.w B U μ H h)(X:ExcAt U fs k B μ h e fl):
  B.get? e=none/\e∉μ/\(∀o,¬U e o)/\∃oe vs,h.get? e=some oe/\oe.cls=.ref (aT k)/\oe.data=.fields vs/\vs[2]?=some .none:=by
 (revert X;refine r_eaaaaa λbase b1 b2 b3 b4 b5=>r_aeeeee λb6 oe vs T oT ts=>r_aaaa λg1 g2 g3 g4 Z=>?_);refine(aii ?_ (λhm=>?_) (λo hu=>?_) oe vs g1 (bT g2 g3 g4))
 ·cases q:B.get? e with
  |none=>rfl
  |some o=>rw[b1 _ _ q] at b5;cases b5
 ·obtain⟨i,hi⟩:=Eg.mp hm;have hl:i<H.length:=I.len▸(List.getElem?_eq_some_iff.mp hi).1;obtain⟨ob,wQ,_⟩:=I.objs i e H[i] hi (List.getElem?_eq_getElem hl);have:=b2 e hm ob wQ;rw[b5] at this;cases this
 ·refine o_aaea (I.us _ _ hu) λZ Z sl r3 Z=>?_;rw[g1] at r3;have hx:Ex o:=.inl ⟨vs,by have:=CN JC (C6 r3);exact this.symm.trans g3⟩;have:=b3 e o hu hx;rw[b5] at this;cases this
theorem aq3{e:CF}{Q:Bool->CI->Prop}(Ck:uW s.heap (aT k))(Cj:uW s.heap (aT j))(he:s.heap.get? e=some oe)(hc:oe.cls=.ref (aT k))(hq:Q (aT k==aT j) s):
  CH (CG c.prog c.w) A (excMatches (.ref e) (.ref (aT j))) Q E s:=by
 (refine o_eaeeee Ck.at' λoC hC nm q N bs=>r_eeeeee λbm sn sub ab col dd=>r_eeeeea λk0 k1 k2 k3 k5 zq17=>r_aaaa λZ arT Z Z hno=>?_;subst zq17);(refine o_eaeeee Cj.at' λoC' hC' nm' q' N' bs'=>r_eeeeee λbm' sn' at3 ab' atR dd'=>r_eeeeea λk0' Bc Bd Cn k5' zq17=>r_aa λZ arZ Z=>?_;subst zq17);clear Ck Cj;obtain⟨hp,g,d,t,os⟩:=s
 have zD:(Dp (aT j)::bm').contains (.type "BaseException")=true:=by rw[FG,arZ,FY]
 have BO:(Dp (aT k)::bm).contains (.ref (aT j))=(aT k==aT j):=by
  rw[FG,hno j,Gv]
  by_cases q:aT k=aT j
  ·rw[q];simp
  ·rw[EL.mpr q,EL.mpr (λz=>q (Dp.inj z).symm)]
 have f:=tc_notTuple;unfold excMatches
 repeat (first |(with_reducible refine EX he ?_;rw[hc]) |with_reducible refine EX hC' ?_ |(with_reducible refine Gl hC' ?_;rw[zD]) |(with_reducible refine Gl hC ?_;rw[BO]) |wp_step)
 cases hb:(aT k==aT j)<;>(rw[hb] at hq;wp_walk;exact hq)
end
noncomputable def tN.tP(c:tN):tN:={c with Γ:={c.Γ with C:=λZ Z Z=>.bad,hd:=true}}
theorem aq6{R:Result->CI->Prop}{e:CE}
  (h:CH (CG prog w) A (setFlight e none) (λZ tz=>CH (CG prog w) A (DC body env) (λf tM=>R (.ok f) tM) (notedBy (CG prog w) A env λx tM=>R (.error x) tM) tz) (notedBy (CG prog w) A env λx tz=>R (.error x) tz) s):
  codeAny (CG prog w) A (.handlers e [.ExceptHandler none none body pos] env) R s:=by
 refine HG ?_;show CH _ A (do return Fin.done (<-(handleWith e env [.ExceptHandler none none body pos]).onRaise (λx=>do noteFrame x env;theTreesLotGoes x))) _ _ s
 refine wpAny_bind (JZ ?_);have:handleWith e env [.ExceptHandler none none body pos]=(do standAt pos;setFlight e none;DC body env):=by clear h;cases body<;>rfl
 rw[this];exact wpAny_bind (DT (wpAny_bind (C7 h (λZ tz tC=>C7 tC (λf tM t6=>wpAny_pure t6) λZ Z x=>x) λZ Z x=>x)))
section
variable {c:tN}{n:Nat}
theorem tE.wk{r:R Fl}{Q:Flow->CI->Prop}(le:∀b p,U0 b p->U0' b p)(P:tE c U0 env vis s B μ r Q E):tE c U0' env vis s B μ r Q E:=by
 cases r with
 |ok fl H'=>
  cases fl with
  |next ρ'=>exact λvm uC wg t6 ve x y F=>P vm uC wg t6 ve x y (F.weak le)
  |ret v=>exact λvm uC wg t6 ve cv ρ' x y F w=>P vm uC wg t6 ve cv ρ' x y (F.weak le) w
 |exc k H'=>exact λvm uC wg t6 ve e ρ' x y F w=>P vm uC wg t6 ve e ρ' x y (F.weak le) w
 |bad=>exact P
theorem tE.asV{A':Around}{r:R Fl}{Q:Flow->CI->Prop}(T:FE c U0 A env nk n)(hA:A'.frames=some c.fs)(P:tE c U0 env vis s B μ r Q E):
  tE c U0 env vis s B μ r Q (notedBy (CG c.prog c.w) A' env λe s'=>cameBackBy (CG c.prog c.w) A env E e s'):=by
 cases r with
 |ok fl H'=>cases fl<;>exact P
 |exc k H'=>intro B' tB U' h' t' e ρ' x y F w;obtain⟨yH,h1,h2,h3⟩:=T.top;refine om (c:=c) (s:={s with heap:=h',toks:=t'}) hA h1 h2 F.inv w λyl I x2=>?_;refine aa0 h2 I x2 λh3' I2 x3=>?_;exact P B' tB U' h3' t' e ρ' x y (F.step (λZ Z e=>e) (Pre.refl _) I2) (x3.exc h1 h2)
 |bad=>exact P
theorem ab9{e:CF}{fl:CE}(T:FE c U0 A env nk n)(F:FS true c.prog c.w U0 env vis ρ B μ H U h)(X:ExcAt U c.fs k B μ h e fl):
  ∃oe,h.get? e=some oe/\oe.cls=.ref (aT k)/\FE c.tP (U0.put e oe) (A.mark (some (.ref e))) env nk n/\FS true c.prog c.w (U0.put e oe) env vis ρ B μ H (U.put e oe) h/\∀b p,U0 b p->U0.put e oe b p:=by
 refine o_aaaeea (X.free F.inv) λn1 n2 n3 oe vs e1=>r_aa λe2 e3 e4=>?_;have xz:∀p,¬U0 e p:=λp hu=>n3 p (F.keep _ _ hu);have uu:e≠env.locals:=by obtain⟨o,es,ep,g1,_⟩:=F.own.dict;exact λq=>n3 o (q▸g1)
 have v4:∀x b,env.cells.lookup x=some b->env.kindOf x=some .cell->b≠e:=λx b q1 q2=>by obtain⟨o,v,g4,_⟩:=F.own.cell rfl x b q1 q2;exact λq=>n3 o (q▸g4)
 have uA:∀o,h.get? e=some o->∀v,o.data≠.cell v:=λo q v z=>by rw[e1] at q;cases q;rw[e3] at z;cases z
 have T1:=T.put (o:=oe) xz uu v4;refine(kg oe e1 e2 ⟨T1.kind,T1.glob,T1.blt,T1.kinds,T1.cls,T1.frames,T1.top,T1.deep,T1.units,?_,T1.off⟩ ((F.wH uu uA n1 n2 xz (λZ Z Z q=>q) e1).up (tD.t7 _ _ _)) (λb p hu=>tD.tU (λq=>xz p (q▸hu)) hu));exact .inr (nF rfl (λZ Z Z=>rfl) e oe vs rfl (bT (tD.t7 _ _ _) e3 e4))
inductive HS(c:tN)(n:Nat)(vis:aN)(nk:aP):xB->List DE->Prop where
 |nil:HS c n vis nk .nil []
 |cons {k:Nat} {b:tW} {hs:xB} {x:List Stmt} {xy:List DE} {np pos:Pos} (hg:glob? nk (cV k)=true) (hk:k<=2) (h:d9 c.tP n vis nk b x) (t:HS c n vis nk hs xy):
   HS c n vis nk (.cons k b hs) (.ExceptHandler (some (.Name (cV k) np)) none x pos::xy)
theorem tf(k:Nat):aT k=aT (min k 2):=by
 match k with
 |0=>rfl
 |1=>rfl
 |k+2=>rw[show min (k+2) 2=2 by exact(Fu (EU ..))];cases k<;>rfl
theorem aqW(j k:Nat):(aT k==aT j)=decide (min j 2=min k 2):=by
 rw[tf k,tf j];have hj:min j 2=0\/min j 2=1\/min j 2=2:=by exact ado
 have hk:min k 2=0\/min k 2=1\/min k 2=2:=by exact ado
 rcases hj with hj |hj |hj<;>rcases hk with hk |hk |hk<;>(rw[hj,hk];rfl)
theorem ur.exc(G:ur prog w B)(k:Nat):uW B (aT k):=by obtain⟨K,_,_,XF⟩:=G.kx;rw[tf];exact(XF _ aml).cls
theorem ah6{hs:xB}{xy:List DE}(hh:HS c n vis nk hs xy):∀(U0:tD)(A:Around)(env:Env)(ρ:aB)(B:CL)(μ:List CF)(H:AH)(U:tD)(s:CI)(Q:Flow->CI->Prop)(E:CE->CI->Prop)(k:Nat)(e:CF),
  FE c U0 A env nk n->FS true c.prog c.w U0 env vis ρ B μ H U s.heap->ur c.prog c.w B->ExcAt U c.fs k B μ s.heap e .none->tE c U0 env vis s B μ (handle c.Γ k hs ρ H) Q E->CH (CG c.prog c.w) A (handleBy (.ref e) env xy) Q E s:=by
 induction hh with
 |nil=>exact λU0 A env ρ B μ H U s Q E k e T F G X P=>(tE.to P E7.nil).elim
 |@cons j b hs x xy np pos hg hj hb ht ih=>
  intro U0 A env ρ B μ H U s Q E k e T F G X P;replace P:=tE.to P E7.cons;obtain⟨oe,e1,e2,T',F',le⟩:=ab9 T F X;refine o_eeaaaa G.ns λg bb n1 n2 Z Z=>r_aa λZ n6 Z=>?_;refine wpAny_handleBy_cons (codeAny_handlers_test (eg (c:=c.tP.tF (U.put e oe)) (T'.es F') (cL (c:=c.tP) F' G) hg (ax g bb n1 n2 (.inl (n6 j hj))) ?_)) (by intro q;cases q);refine aq3 (c:=c) (k:=k) (j:=j) ((G.exc k).mono F.inv.base) ((G.exc j).mono F.inv.base) e1 e2 ?_;rw[aqW]
  split at P
  ·rename_i BZ
   rw[Db BZ];refine aq6 (acp (c:=c) F.inv X λh' I' X'=>?_);have F1:=F.step (λZ Z e=>e) (Pre.refl _) I';obtain⟨oe',_,_,T1,F1',le'⟩:=ab9 T F1 X';exact hb _ _ env ρ B μ H _ {s with heap:=h'} _ _ T1 F1' G (((tE.shift P (λZ Z e=>e) (Pre.refl _) h' s.toks).asV T (A':=A.mark (some (.ref e))) T.frames).wk le')
  ·rename_i BZ
   rw[DD BZ];exact ih U0 A env ρ B μ H U s Q E k e T F G X P
theorem apO{e:PE}{hs:xB}{v:CJ}{xy:List DE}(hv:gz c n vis nk e v)(ht:TE vis nk e v)(hn:bM v=true)(hh:HS c n vis nk hs xy):dE c n vis nk (.vR e hs) (.Try [.Expr v p] xy [] [] pos):=λU0 A env ρ B μ H U s Q E T F G P=>by
 replace P:=tE.to P E5.vR
 cases hh with
 |nil=>rw[FY,CM rfl] at P;exact P.elim
 |cons hg hk hb htl=>
  rw[Gv] at P
  split at P
  ·exact P.elim
  ·rename_i hc
   obtain⟨yH,t1,t2,t3⟩:=(T.top);refine wpAny_Try_except (Fy (JT ((hv U).v A env ρ 4 B μ H s _ _ (T.es F) (cL F G) ?_) ?_ (jD ht hn _ _ _)))
   ·(revert P;refine cX (ev c.Γ e 4 ρ H) λr zW P=>?_)
    cases r with
    |ok v' H'=>
     intro B' tB h' t' cv hB tQ I w;refine Fk (Fk ?_);dsimp only at P
     split at P
     ·exact P B' tB U h' t' hB tQ (F.step hB tQ I)
     ·exact P.elim
    |exc k H'=>intro B' tB h' t' ea hB tQ I w;have F1:=F.step hB tQ I;refine om (c:=c) (s:={s with heap:=h',toks:=t'}) T.frames t1 t2 I w λh1 I1 x1=>?_;refine acp (c:=c) (fl:=Dr env.locals) (s:={s with heap:=h1,toks:=t'}) I1 x1 λh2 I2 x2=>?_;exact ah6 (.cons hg hk hb htl) U0 A env ρ B' tB H' U {s with heap:=h2,toks:=t'} Q E k ea T (F1.step (λZ Z e=>e) (Pre.refl _) I2) (G.mono hB) x2 (tE.shift P hB tQ h2 t')
    |bad=>exact P.elim
   ·unfold interactive;rw[T.kind];rfl
end
structure t8(c:tN)(n:Nat):Prop where
 CO:∀U,eU (c.tF U) n
 NO:∀U,ia (c.tF U) n
 LR:hV c n
 ZR:iC c n
section
variable {n:Nat}
section
variable {c:tN}{ps:PS}{st':Stmt}
theorem i8(h:st=st')(v:dE c n vis nk ps st'):dE c n vis nk ps st:=by subst h;exact v
theorem ssN{st:List Stmt}(h:st=[]):d9 c n vis nk .nil st:=by subst h;exact apK
theorem ssC{s:PS}{wA gs:List Stmt}{t:Stmt}(h:wA=t::gs)(h1:dE c n vis nk s t)(h2:d9 c n vis nk ss gs):d9 c n vis nk (.cons s ss) wA:=by subst h;exact apF h1 h2
theorem hsN{l:List DE}(h:l=[]):HS c n vis nk .nil l:=by subst h;exact .nil
theorem hsC{b:tW}{hs:xB}{l l':List DE}{x:List Stmt}(h:l=.ExceptHandler (some (.Name (cV k) np)) none x p::l')(h1:glob? nk (cV k)=true)(h2:k<=2)(h3:d9 c.tP n vis nk b x)(h4:HS c n vis nk hs l'):HS c n vis nk (.cons k b hs) l:=by subst h;exact .cons h1 h2 h3 h4
end
theorem afo{c:tN}(K:t8 c n)(uz:bQ vis=true){e:PE}{v:CJ}(h:TE vis nk e v):∀{t:PT},TT vis nk t tg v->dE c n vis nk (.assign t e) (.Assign [tg] v p)
 | .var i,q=>by rw[q.1];exact apC K.CO K.NO K.LR K.ZR uz q.2.1 q.2.2 h
 | .tup is,q=>by obtain⟨es,k,tp,h1,h2⟩:=rD q.2.1;subst h1;exact apE (λU=>cG K.CO K.NO K.LR K.ZR h U) h q.2.2.2.2.2.1 q.2.2.2.2.2.2 uz h2 q.2.2.1 q.2.2.2.1 q.2.2.2.2.1
 | .sub a i,q=>by rw[q.1];exact apD (λU=>cG K.CO K.NO K.LR K.ZR q.2.2.1 U) (λU=>cG K.CO K.NO K.LR K.ZR q.2.2.2 U) (λU=>cG K.CO K.NO K.LR K.ZR h U) h q.2.1
mutual
theorem aeh{c:tN}(K:t8 c n)(KH:t8 c.tP n)(uz:bQ vis=true):∀(ps:PS){st:Stmt},TS vis nk ps st->dE c n vis nk ps st
 | .assign t e,_,h=>i8 h.1 (afo K uz h.2.1 h.2.2)
 | .expr e,_,h=>i8 h.1 (apG (λU=>cG K.CO K.NO K.LR K.ZR h.2.2 U) h.2.2 h.2.1)
 | .ret e,_,h=>i8 h.1 (apM (λU=>cG K.CO K.NO K.LR K.ZR h.2 U))
 | .ifs d a b,_,h=>i8 h.1 (apI (λU=>cG K.CO K.NO K.LR K.ZR h.2.1 U) (uB K KH uz a h.2.2.1) (uB K KH uz b h.2.2.2))
 | .uU d b,_,h=>i8 h.1 (apP (λU=>cG K.CO K.NO K.LR K.ZR h.2.1 U) (uB K KH uz b h.2.2))
 | .for t one it b,_,h=>i8 h.1 (apH (λU=>cG K.CO K.NO K.LR K.ZR h.2.2.2.2.1 U) h.2.2.2.2.1 uz h.2.1 h.2.2.1 h.2.2.2.1 (uB K KH uz b h.2.2.2.2.2))
 | .raise k,_,h=>i8 h.1 (apL h.2.1 h.2.2)
 | .vR e hs,_,h=>i8 h.1 (apO (λU=>cG K.CO K.NO K.LR K.ZR h.2.2.1 U) h.2.2.1 h.2.1 (arl K KH uz hs h.2.2.2))
 | .defn _ _,_,h=>h.elim
theorem uB{c:tN}(K:t8 c n)(KH:t8 c.tP n)(uz:bQ vis=true):∀(ps:tW){st:List Stmt},vE vis nk ps st->d9 c n vis nk ps st
 | .nil,_,h=>ssN h
 | .cons s ss,_,h=>ssC h.1 (aeh K KH uz s h.2.1) (uB K KH uz ss h.2.2)
theorem arl{c:tN}(K:t8 c n)(KH:t8 c.tP n)(uz:bQ vis=true):∀(hs:xB){xy:List DE},AN vis nk hs xy->HS c n vis nk hs xy
 | .nil,_,h=>hsN h
 | .cons k b hs,_,h=>hsC h.1 h.2.1 h.2.2.1 (uB (c:=c.tP) KH KH uz b h.2.2.2.1) (arl K KH uz hs h.2.2.2.2)
end
theorem aeg{c:tN}(K:t8 c n)(KH:t8 c.tP n)(uz:bQ vis=true){ps:PS}(h:TS vis nk ps st):dE c n vis nk ps st:=aeh K KH uz ps h
theorem sF{c:tN}(K:t8 c n)(KH:t8 c.tP n)(uz:bQ vis=true){ps:tW}{st:List Stmt}(h:vE vis nk ps st):d9 c n vis nk ps st:=uB K KH uz ps h
end
abbrev tN.inner(c:tN)(env:Env)(n:Nat):tN:={c with fs:=env::c.fs,Γ:=⟨run n,100000,false⟩}
noncomputable def lD(r:R Fl):R AV:=r.bind λfl H=>match fl with
 | .ret v=>.ok v H
 | .next _=>.ok .none H
section
variable {c:tN}{n:Nat}{U1:tD}
theorem aaL(S:d9 (c.inner env n) n vis nk bd body)(T:FE (c.inner env n) c.U A env nk n)
  (F:FS true c.prog c.w c.U env vis ρ B μ H U1 s.heap) (G:ur c.prog c.w B) (P:tj c s B μ VR (lD (CK ⟨run n,100000,false⟩ bd ρ H)) Q E):
  CH (CG c.prog c.w) A (DC body env) (λf s'=>Q (match f with | .ret v=>v |_=>.none) s') (λe s'=>CH (CG c.prog c.w) A (leaving env e) (λZ wx=>E e wx) (λe' wx=>E e' wx) s') s:=by
 refine S c.U A env ρ B μ H U1 s _ _ T F G ?_;have hf:env.frame=some env.locals:=by obtain⟨_,_,h,_⟩:=T.top;exact h
 unfold lD at P;revert P;show tj c s B μ VR ((CK ⟨run n,100000,false⟩ bd ρ H).bind _) Q E->tE (c.inner env n) c.U env vis s B μ (CK ⟨run n,100000,false⟩ bd ρ H) _ _
 cases CK ⟨run n,100000,false⟩ bd ρ H with
 |ok fl H'=>
  cases fl with
  |next ρ'=>exact λP B' tB U' h' t' hB tQ F'=>P B' tB h' t' .none hB tQ (F'.inv.less F'.keep) .none
  |ret v=>exact λP B' tB U' h' t' cv ρ' hB tQ F' w=>P B' tB h' t' cv hB tQ (F'.inv.less F'.keep) w
 |exc k H'=>intro P B' tB U' h' t' e ρ' hB tQ F' w;exact ai1 (c:=c) (s:={s with heap:=h',toks:=t'}) (outer:=c.fs) T.frames hf F'.inv w F'.keep λh2 I2 w2=>P B' tB h2 t' e hB tQ I2 w2
 |bad=>exact λP=>P
theorem su{n np:Nat}(h:dK k=some (np,nv,bd))(hl:vs.length=np):run (n+1) k vs H=lD (CK ⟨run n,100000,false⟩ bd (vs++CR (nv-np) .undef) H):=by rw[kJ,h];dsimp only;rw[CM hl];rfl
theorem lI{a:CF}{np:Nat}{ps:List Str}(D:vn B a fd body ps)(F:vS np nv vis ps fd.scope.names)(hS:gA A c.U c.fs)(hd:A.depth+(n+1)<480)(hu:A.units+60*(n+1)<=8950)(hh:A.handled=none)
  (uN:Off true c.U (C0 fd L a)):FE (c.inner (C0 fd L a) n) c.U (A.deeper (C0 fd L a)) (C0 fd L a) fd.scope.names n where
 kind:=D.kind
 glob:=D.glob
 blt:=D.blt
 kinds:=λx=>rfl
 cls:=λx hx=>by
  rcases hx with hx |hx
  ·exact FR.mp (m8 (.inr (mem_of_lookup hx)))
  ·exact CP hx (F.ar2 x)
 frames:=J4 hS.1
 top:=(aI c.fs rfl rfl hS.2)
 deep:=by show A.depth+1+n<480;exact adp hd
 units:=by show A.units+3+60*n+100<=9000;exact amm hu
 u3:=.inl ⟨rfl,hh⟩
 off:=uN
theorem agi(hS:∀c:tN,c.Γ=⟨run n,100000,false⟩->t8 c n/\t8 c.tP n)(c:tN)(hc:c.Γ.C=run (n+1)):eU c (n+1):=by
 intro A k vs tA B μ H s Q E y4 hd hu hh I G hv hk q30 q31 P;rw[hc] at P
 cases hf:dK k with
 |none=>rw[kJ,hf] at P;exact P.elim
 |some x=>
  obtain⟨np,nv,bd⟩:=x
  by_cases hl:vs.length=np
  ·rw[su hf hl] at P;refine o_eeeeaa (G.xe k np nv bd hf (amn hk) q30 q31) λfd body ps vis D uE=>r_a λF wG=>?_;refine aaX D F I G.nolimit hv hl (by show A.depth<1000;exact CT (Nat.lt_of_le_of_lt (Nat.le_add_right ..) hd) (by decide)) (λtC ux uN FS=>?_) uE;have K:=hS (c.inner (C0 fd s.heap.objs.size (bK k)) n) rfl;exact aaL (c:=c) (s:={s with heap:=tC,toks:=ux}) (sF K.1 K.2 F.ok wG) (lI D F y4 hd hu hh uN) FS G (tj.shift P (λZ Z e=>e) (Pre.refl _) tC ux)
  ·rw[kJ,hf] at P;dsimp only at P;rw[CQ hl] at P;exact P.elim
end
theorem VR.ars(h:wh env x B μ v cv)(hp:fB v=true):VR B μ v cv:=by cases v<;>first |exact h |cases hp
section
variable {c:tN}{n:Nat}
theorem aiZ{i m:Nat}{ue:List Nat}{C:R AV->Prop}(hb:¬C .bad)(h:C (ev Γ (.tH i ue) m ρ H)):∃vs,ρ[i]?=some (.fn 41)/\ue.mapM (λj=>ρ[j]?)=some vs/\vs.all fB=true/\C (Γ.C 41 vs H):=by
 rw[E1.tH] at h
 cases q:ρ[i]? with
 |none=>rw[q] at h;exact(hb h).elim
 |some v=>
  rw[q] at h
  cases v with
  |fn k=>
   dsimp only at h
   cases q2:ue.mapM λj=>ρ[j]? with
   |none=>rw[q2] at h;exact(hb h).elim
   |some vs=>
    rw[q2] at h;dsimp only at h
    by_cases hk:k=41/\vs.all fB=true
    ·rw[CM hk] at h;clear q;obtain⟨rfl,hp⟩:=hk;exact(cY vs rfl rfl hp h)
    ·rw[CQ hk] at h;exact(hb h).elim
  |_=>exact(hb h).elim
theorem ajl{j1 j2:Nat}(h:[j1,j2].mapM (λj=>ρ[j]?)=some vs):∃w u,ρ[j1]?=some w/\ρ[j2]?=some u/\vs=[w,u]:=by
 cases q1:ρ[j1]? with
 |none=>simp[GD,q1] at h
 |some w=>
  cases q2:ρ[j2]? with
  |none=>simp[GD,q1,q2] at h
  |some u=>simp[GD,q1,q2] at h;exact(ax w u rfl rfl h.symm)
theorem ai9(hS:∀c:tN,c.Γ=⟨run n,100000,false⟩->t8 c n/\t8 c.tP n)(hc:c.Γ.C=run (n+1)):hV c (n+1):=by
 intro U vis nk i j1 j2 x np pos h1 h2 h3 h4 A env ρ m B μ H s Q E S D P;refine o_eaaa (aiZ (C:=λr=>tj (c.tF U) s B μ VR r Q E) id P) λvs q e3 yy P=>?_;obtain⟨w,h,q1,q2,e⟩:=ajl e3;clear e3;subst e;rw[show(c.tF U).Γ.C=run (n+1) from hc] at P;simp only[HZ,List.all_nil,IH,Bool.and_eq_true] at yy;(obtain⟨cf,zq1,vf⟩:=D.env i x _ h1 q (by simp);obtain⟨⟨f,rfl,O,kc⟩,kl⟩:=zq1);have nu:∀{v:AV},fB v=true->v≠.undef:=λhp e=>by rw[e] at hp;cases hp
 obtain⟨cw,gw,uw⟩:=D.env j1 _ _ h3 q1 (nu yy.1);obtain⟨ch,gh,uh⟩:=D.env j2 _ _ h4 q2 (nu yy.2);have gw:=VR.ars gw yy.1;have gh:=VR.ars gh yy.2
 have cellOf:∀{y:Str}{cv:CE},(y=("width":Str)\/y=("height":Str))->lq env U y cv->∃a o,env.cells.lookup y=some a/\U a o/\o.data=.cell (some cv):=λhy hu=>by
  rcases hu with⟨g,_⟩ |⟨_,a,o,g1,g2,g3,_⟩
  ·rw[kc _ hy] at g;cases g
  ·exact(ax a o g1 g2 g3)
 refine o_eeaaaa O.ex λfd body FD wG wt uE=>r_aa λvh asG atm=>?_;obtain⟨ob,ho,zg⟩:=(FD.ob);simp only[fy,Bool.and_eq_true,Fh,ne_eq] at h2;refine FA rfl (Gk (acw D.inv S.kind vf h2.2 ?_) (by simpa using h2.1));refine HD (P:=uZ (.ref f)) rfl (λh x=>x.wq h) (JQ ⟨.inr (.inr (.inl (bZ f ob fd rfl (D.inv.base _ _ ho) zg))),?_⟩);show CH _ _ (call (.ref f) []) _ _ _;have yz:run (n+1) 41 [w,h] H=lD (CK ⟨run n,100000,false⟩ ig [w,h,.undef] H):=(su (n:=n) (k:=41) (np:=2) (nv:=3) (vs:= [w,h]) (bd:=ig) rfl rfl).trans rfl;rw[yz] at P;refine FX (codeAny_call_plain (binds:= []) (by have:=S.deep;show A.depth<1000;exact CT (Nat.lt_of_le_of_lt (Nat.le_add_right ..) this) (by decide)) (D.inv.base _ _ ho) zg (D.uD.nolimit.keeps D.inv.base) (FD.code.keeps D.inv.base) FD.body (lF (ps:= []) FD.args FD.dflt Il rfl) wt (λx hx=>by cases hx) (λh₀ yw yu=>?_) FD.co FD.gen FD.kind);have new:B.get? s.heap.objs.size=none/\s.heap.objs.size∉μ/\∀p,¬U s.heap.objs.size p:=⟨D.inv.xq,D.inv.nextM,D.inv.wF⟩;obtain⟨oL,es,ep,eL,dL,kL,_⟩:=yw;have I':=(D.inv.ext yu).more eL new.1 new.2.1;have low:∀y a,fd.closure.lookup y=some a->∃o v,U a o/\o.data=.cell v/\a≠s.heap.objs.size:=λy a e=>by
  obtain⟨e1,hy⟩:=uE y a e;have:∃a o v,env.cells.lookup y=some a/\U a o/\o.data=.cell v:=by
   clear e e1;rcases hy with rfl |rfl
   ·obtain⟨a,o,z1,z2,z3⟩:=cellOf (.inl rfl) uw;exact(bZ a o _ z1 z2 z3)
   ·obtain⟨a,o,z1,z2,z3⟩:=cellOf (.inr rfl) uh;exact(bZ a o _ z1 z2 z3)
  obtain⟨a',o,v,z1,z2,z3⟩:=this;rw[e1] at z1;cases z1;exact(ax o v z2 z3 (λq=>new.2.2 o (q▸z2)))
 have uN:Off true U (callEnv fd s.heap.objs.size f):=⟨new.2.2,λZ y a p e1 e2=>CP rfl (wt _ (mem_of_lookup (show fd.scope.names.lookup y=some .cell from e2)))⟩;have T:FE ((c.tF U).inner (callEnv fd s.heap.objs.size f) n) U (A.deeper (callEnv fd s.heap.objs.size f)) (callEnv fd s.heap.objs.size f) fd.scope.names n:=by
  refine⟨FD.kind,FD.glob,FD.blt,λy=>rfl,λy hy=>?_,J4 S.xO.1,(aI c.fs rfl rfl S.xO.2),by have:=S.deep;show A.depth+1+n<480;exact adp this,by have:=S.units;show A.units+3+60*n+100<=9000;exact amo this,?_,uN⟩
  ·rcases hy with hy |hy
   ·exact CP rfl (wt _ (mem_of_lookup hy))
   ·exact asG y ((vh y).mp hy)
  ·rcases S.u3 with⟨_,h⟩ |⟨_,hb,_⟩
   ·exact .inl ⟨rfl,h⟩
   ·have:=hb 41 [w,h] H;rw[show(c.tF U).Γ.C=run (n+1) from hc,yz] at this;rw[this] at P;exact P.elim
 have FSv:FS true c.prog c.w U (callEnv fd s.heap.objs.size f) [(0,("width":Str)),(1,("height":Str))] [w,h,.undef] B μ H (U.add s.heap.objs.size oL) h₀:=by
  refine⟨I',?_,⟨(bZ oL es ep (.inr ⟨rfl,rfl⟩) dL kL),?_,?_,?_,?_⟩,λb p hu=>.inl hu⟩
  ·intro i' y v hm hr zk
   have key:∀{y:Str}{v:AV}{cv:CE},(y=("width":Str)\/y=("height":Str))->VR B μ v cv->lq env U y cv->∃cv,wh (callEnv fd s.heap.objs.size f) y B μ v cv/\lq (callEnv fd s.heap.objs.size f) (U.add s.heap.objs.size oL) y cv:=λ{y v cv} hy hv hu=>by obtain⟨a,o,z1,z2,z3⟩:=cellOf hy hu;obtain⟨a',e'⟩:=asG y hy;have:=(uE y a' e').1;rw[z1] at this;cases this;exact(ae cv hv.xv (.inr (eH (.inr ((vh y).mpr hy)) a o e' (.inl z2) z3 (λ(q:a=s.heap.objs.size)=>new.2.2 o (q▸z2)))))
   simp only[CX,Ix,DK,DM] at hm;rcases hm with⟨rfl,rfl⟩ |⟨rfl,rfl⟩
   ·clear zk;cases hr;exact key (.inl rfl) gw uw
   ·clear zk;cases hr;exact key (.inr rfl) gh uh
  ·rintro b (rfl |⟨_,y,e1,e2⟩) p q' hp hq
   ·rcases hp with hp |⟨_,rfl⟩
    ·exact CP hp (new.2.2 p)
    ·rcases hq with hq |⟨_,rfl⟩
     ·exact CP hq (new.2.2 q')
     ·rfl
   ·exact CP rfl (wt _ (mem_of_lookup (show fd.scope.names.lookup y=some .cell from e2)))
  ·intro _ y a e1 e2;exact CP rfl (wt _ (mem_of_lookup (show fd.scope.names.lookup y=some .cell from e2)))
  ·exact λZ y z a e1 e2=>atm y z a e1 e2
  ·intro _ y a e1;obtain⟨_,_,_,_,z⟩:=low y a e1;exact z
 have K:=hS ((c.tF U).inner (callEnv fd s.heap.objs.size f) n) rfl;exact aaL (c:=c.tF U) (s:={s with heap:=h₀,toks:=s.toks+0}) (sF K.1 K.2 (by decide) wG) T FSv D.uD (tj.shift P (λZ Z e=>e) (Pre.refl _) h₀ _)
end
def afe(z TI TO i1 i2 l1 l2:CF)(p q:Nat)(_:CL)(μ:List CF)(j:Nat)(h:CL):Prop:=IsZip h z TI TO .none/\IsPair h TI (.ref i1) (.ref i2)/\(∃a b,IsPair h TO a b)/\h.IsListIter i1 l1 j/\h.IsListIter i2 l2 j/\μ[p]?=some l1/\μ[q]?=some l2
theorem aq8{c:tN}{z TI TO i1 i2 l1 l2:CF}{p:Nat}(D:ZipApart z TI TO i1 i2 l1 l2)(hh:A.handled=none):
  Src c A (.Tuple es k pos) z [z,TI,TO,i1,i2] (λH j=>fh H (.ref p) (.ref q) j) (afe z TI TO i1 i2 l1 l2 p q) where
 at_:=λ⟨a1,a2,⟨a,b,a3⟩,a4,a5,a6,a7⟩ k hB tQ=>(dy (k z (by simp) _ a1) (k TI (by simp) _ a2) (cK a b (k TO (by simp) _ a3)) (a4.at λo e=>k i1 (by simp) o e) (a5.at λo e=>k i2 (by simp) o e) (tQ _ _ a6) (tQ _ _ a7))
 obj:=λ⟨a1,a2,⟨a,b,a3⟩,⟨o4,e4,_,f4⟩,⟨o5,e5,_,f5⟩,_⟩ x hx=>by
  simp only[CX,DK,DM] at hx;clear D;rcases hx with rfl |rfl |rfl |rfl |rfl
  ·exact(ae _ a1 (.inl ⟨_,rfl⟩))
  ·exact(ae _ a2 (.inr (cK _ _ rfl)))
  ·exact(ae _ a3 (.inr (cK _ _ rfl)))
  ·exact(ae _ e4 (.inl ⟨_,f4⟩))
  ·exact(ae _ e5 (.inl ⟨_,f5⟩))
 self:=λ⟨a1,_⟩ q=>M3 a1 q
 next:=λU B μ H s j r Q E E' hU I ⟨a1,a2,⟨a,b,a3⟩,a4,a5,a6,a7⟩ hi h1 h2=>by
  unfold fh at hi;replace hi:=um.pL hi;obtain⟨p',xs,hp',g1,hi⟩:=hi;cases hp';replace hi:=um.pL hi;obtain⟨q',ys,hq',g2,hi⟩:=hi;cases hq';cases hi;obtain⟨cxs,n1,e1,v1,_⟩:=I.list a6 g1;obtain⟨cys,n2,e2,v2,_⟩:=I.list a7 g2;have fin:(xs[j]?=none\/ys[j]?=none)->CH (CG c.prog c.w) A (pyNext (.ref z)) (λr tz=>match r with |none=>Q none tz |some v=>CH (CG c.prog c.w) A (FV (.Tuple es k pos) (.ref z) v) (λZ tM=>Q (some v) tM) E' tz) E s:=λhn=>by
   have hr:((xs[j]?).bind λx=>(ys[j]?).map λy=>AV.tup [x,y])=none:=by
    rcases hn with q |q
    ·rw[q];rfl
    ·rw[q];cases xs[j]? <;>rfl
   refine wpAny_pyNext_zip_end hh D a1 a2 a3 a4 a5 (cH e1) (cH e2) ?_ λh' hk=>h2 h' hr λb o hb=>?_
   ·rcases hn with q |q
    ·left;rw[Hj,E0,v1.length];exact E0.mp q
    ·right;rw[Hj,E0,v2.length];exact E0.mp q
   ·simp only[CX,DK,DM,Fx] at hb;exact hk b o hb.1 hb.2.2.1 hb.2.2.2.1 hb.2.2.2.2
  cases gx:xs[j]? with
  |none=>exact fin (.inl gx)
  |some x=>
   cases gy:ys[j]? with
   |none=>exact fin (.inr gy)
   |some y=>
    obtain⟨cx,x1,x2⟩:=v1.get gx;obtain⟨cy,y1,y2⟩:=v2.get gy;refine wpAny_pyNext_zip_item D a1 a2 a3 a4 a5 (cH e1) (cH e2) (by simpa using x1) (by simpa using y1) λh' b1 b2 b3 b4 b5 b6 b7=>?_;have lt:∀{c o},s.heap.get? c=some o->s.heap.objs.size≠c:=λe=>C2 (Dh e);refine wpAny_letOwnedTupleGo_zip b1 λBF c1 c2=>?_;refine h1 (.tup [x,y]) _ BF s.toks (by rw[gx,gy];rfl) (.inr (ce s.heap.objs.size ([x,y]) ([cx,cy]) rfl rfl (IT (Nat.le_refl _)) (bE (c2.extBut _ _ (lt a1) b5) (.cons x2 (.cons y2 .nil)))))
     (dy c1 (c2.extBut _ _ D.TIz (b7 _ _ D.TIz D.TITO D.TIi1 D.TIi2 a2)) (cK _ _ (c2.extBut _ _ D.TOz b2)) (b3.extBut c2.extBut D.i1z) (b4.extBut c2.extBut D.i2z) a6 a7) λb o hb e=>?_
    simp only[CX,DK,DM,Fx] at hb;exact c2.extBut _ _ hb.1 (b7 b o hb.1 hb.2.2.1 hb.2.2.2.1 hb.2.2.2.2 e)
section
variable {c:tN}{n:Nat}
theorem aeR:iC c n:=by
 intro U vis nk elt t one it xN conds uX tg vF y5 tY sc pos xs np zp hi hi2 hg yx hx hl uM hkf hf hE hC A env ρ m B μ H s Q E S D P;subst yx;have hk:=ro hkf;obtain⟨hf,uz⟩:=Fm.mp hf
 cases m with
 |zero=>replace P:=tj.to P E1.arQ;exact P.elim
 |succ m=>
  have hT:∃es k p,tg=.Tuple es k p:=by obtain⟨es,k,p,e,_⟩:=rD hx;exact(nK es k p e)
  obtain⟨es,kk,tp,rfl⟩:=hT;rw[eval_ListComp]
  show CH _ _ (comprehension _ sc env _ (newList []) false (eval (.Call (.Name "zip" np) [vF,y5] [] zp) env) none) _ _ _
  obtain⟨cl,yp,v4⟩:=abb hf S.cls;refine MV rfl (λx=>rfl) yp hk (λy hy e=>(jJ hf (x:=y.1) (k:=y.2) hy).2.1 e) ?_;refine o_eeaaaa D.uD.ns λg b n1 n2 Z Z=>r_aaaaa λZ Z Z n8 n9 Z=>?_
  refine FA (x:="zip") rfl (eg S D hg (ax g b n1 n2 (.inr ⟨n8,n9⟩)) ?_)
  have P1:tj (c.tF U) s B μ VR ((uj c.Γ (.cons it (.cons xN .nil)) (m+1) ρ H).bind λvs H=>jF .bad vs λsrc q=>if c.Γ.hd=true then .bad else
   (dp (λH j=>fh H src q j) (gG c.Γ elt t false conds m ρ) (cJ H src+1) 0 [] H).bind λxs H=>cn xs H) Q E:=tj.to P E1.ase
  refine jI (c:=c.tF U) (n:=n) (vis:=vis) (nk:=nk) (ps:=.cons it (.cons xN .nil)) (first:= []) (.cons (hi U) (.cons (hi2 U) .nil)) S D (aX D P1 λvs H' B' tB s' tA e D' v' hB tQ P'=>⟨.inr (.inl ⟨_,rfl⟩),?_⟩)
  show CH _ _ (call _ tA) _ _ _;refine aic λKQ kK=>?_;obtain⟨src,q,e,P'⟩:=P'.p2;subst e
  ·split at P'
   ·exact P'.elim
   ·rename_i vU
    have hh:A.handled=none:=nz S (show c.Γ.hd=false by simpa using vU);replace P':tj (c.tF U) s' B' tB VR ((dp (λH j=>fh H src q j) (gG c.Γ elt t false conds m ρ) (cJ H' src+1) 0 [] H').bind λxs H=>cn xs H) Q E:=P';have yt:∃r,fh H' src q 0=some r:=by
     cases z:fh H' src q 0 with
     |some r=>exact⟨r,rfl⟩
     |none=>rw[Ag.s] at P';rw[z] at P';exact P'.elim
    obtain⟨r,yt⟩:=yt;unfold fh at yt;replace yt:=um.pL yt;obtain⟨p,xs',rfl,g1,yt⟩:=yt;replace yt:=um.pL yt;(revert yt;refine r_eeaa λq' CD zq2 g2 yt=>?_;clear e;subst zq2);obtain⟨cl1,cl2,rfl,vl1,vl2⟩:=(v'.o2);(obtain⟨l1,zq1,yY⟩:=(vl1.r);clear vl1;subst zq1);(obtain⟨l2,zq1,Az⟩:=(vl2.r);clear vl2 v';subst zq1);obtain⟨cxs,m1,e1,_,_⟩:=D'.inv.list yY g1;obtain⟨cys,m2,e2,_,_⟩:=D'.inv.list Az g2;refine call_zip_2 (cH e1) (cH e2) λh' z1 z2 z3 z4 z5 z6 z7=>kK _ _ ?_;have ap:=zipApart_new (n:=s'.heap.objs.size) (Dh e1) (Dh e2);have D1:u6 (c.tF U) env vis ρ B' tB H' h':=⟨D'.inv.ext z7,D'.env,D'.uD⟩;refine M3 z1 ?_;rcases abm (item:=λH j=>fh H (.ref p) (.ref q') j) (f:=gG c.Γ elt t false conds m ρ) (cJ H' (.ref p)+1) 0 [] H' with⟨x7,HF,xA⟩ |bad
    ·rw[xA] at P';replace P':tj (c.tF U) s' B' tB VR (cn x7 HF) Q E:=P';unfold cn at P'
     split at P'
     ·rename_i hlen
      have fresh:∀a,s'.heap.objs.size<=a->B'.get? a=none/\a∉tB/\∀p,¬U a p:=λa ha=>by
       refine⟨?_,λhm=>CY _ (Nat.lt_of_lt_of_le (D'.inv.lt hm) ha),λp hu=>CY _ (Nat.lt_of_lt_of_le (D'.inv.zO hu) ha)⟩
       cases q:B'.get? a with
       |none=>rfl
       |some o=>exact CP (Nat.lt_of_lt_of_le (Dh (D'.inv.base _ _ q)) ha) (CY _)
      refine abo (c:=c.tF U) (s:={s' with heap:=h'}) (RR:=compPost (CG c.prog c.w) A E none Q) (λU'=>hE U') (λU'=>hC U') S hx hl uM hk hf uz v4 (.inr hh) (aq8 (p:=p) (q:=q') ap hh) D1 (dy z1 z2 (cK _ _ z3) z4 z5 yY Az) (λa ha=>fresh a ?_) xA hlen ?_
      ·simp only[CX,DK,DM] at ha;rcases ha with rfl |rfl |rfl |rfl |rfl<;>first |exact Nat.le_add_right _ _ |exact Nat.le_refl _
      ·intro Dl C B2 vN h2 t2 ash nD u5 uk I2 eD vD fD fC yR zA;obtain⟨mm,hm⟩:=zA;have J:=I2.adopt eD fD.1 fD.2.1 fD.2.2 (ao:=.list x7) (ax ash nD rfl vD hlen) (jC rfl);have nC:C∉vN++[Dl]:=λhm=>(DP.mp hm).elim fC.2.1 λq=>yR (DJ.mp q);exact(ae mm hm (λh3 hs=>P' B2 _ h3 t2 _ u5 (uk.trans (Pre.snoc _ _)) (J.but hs.extBut fC.1 nC fC.2.2) (.ref _ _ (kt I2.len))))
     ·exact P'.elim
    ·rw[bad] at P';exact P'.elim
end
theorem acW(c:tN)(n:Nat):ia c n:=by intro A k vs tA B μ H s Q E y4 hd hu hh I G hv hl hk P;obtain⟨K,XK,N,_⟩:=(G.kx);exact ajR hk (amq hd) G.nolimit XK (N k hk) I hv hl P
theorem pK{c:tN}{n:Nat}(h:∀k vs H,c.Γ.C k vs H=.bad):t8 c n where
 CO:=λU A k vs tA B μ H s Q E Z Z Z Z Z Z Z Z Z Z P=>by rw[show(c.tF U).Γ.C k vs H=.bad from h k vs H] at P;exact P.elim
 NO:=λU=>acW _ n
 LR:=λU vis nk i j1 j2 x np pos Z Z Z Z A env ρ m B μ H s Q E S D P=>by
  obtain⟨v,_,P⟩:=(tj.to P E1.ar1).pO;refine o_ea ((anM (C:=λr=>tj (c.tF U) s B μ VR r Q E) P).resolve_right id) λk Z P=>?_;obtain⟨vs,_,P⟩:=P.pO
  split at P
  ·rw[show(c.tF U).Γ.C k vs H=.bad from h k vs H] at P;exact P.elim
  ·exact P.elim
 ZR:=aeR
theorem mP:∀(n:Nat)(c:tN),c.Γ=⟨run n,100000,false⟩->t8 c n/\t8 c.tP n:=by
 intro zi
 induction zi with
 |zero=>
 exact @λc h=>⟨pK λk vs H=>by rw[h];rfl,pK λZ Z Z=>rfl⟩
 |succ n ih=>
 exact @λc h=>⟨⟨λU=>agi (ih) (c.tF U) (by show c.Γ.C=_;rw[h]),λU=>acW _ _,ai9 (ih) (by rw[h]),aeR⟩,pK λZ Z Z=>rfl⟩
noncomputable def gL:List String:= ["bytearray.__contains__","bytearray.__mod__","bytearray.__rmod__","_struct.pack_into.held","bytearray.find.held"]++Kh
noncomputable def jk:Code->Bool
 | .builtin id _=> !gL.contains id
 |_=>true
def li(l:List (Code×Pos)):Prop:=∀x∈l,jk x.1=true
def ai{α:Type}(M:Model)(A:Around)(t:Sem α)(Q:α->CI->Prop)(s:CI):Prop:=∀Γ p,Γ.In A->jk Γ.code=true->li Γ.below->Sem.wp M Γ t (λa Z s'=>Q a s') (λZ Z Z=>False) p s
def dn(M:Model)(A:Around)(c:Code)(Q:Flow->CI->Prop)(s:CI):Prop:=∀Γ p,Γ.code=c->Γ.Below A->li Γ.below->wpCode M Γ (λr s'=>∃f,r=.ok f/\Q f s') p s
def bH:CE->CI->Prop:=λZ Z=>False
section
theorem c8{t:Sem α}{Q:α->CI->Prop}(h:CH M A t Q bH s):ai M A t Q s:=λΓ p a Z Z=>h Γ p a
theorem cQ{t:Sem α}{Q Q':α->CI->Prop}(h:ai M A t Q s)(hQ:∀a s,Q a s->Q' a s):ai M A t Q' s:=λΓ p a b c=>Hz M Γ t (λa Z s=>hQ a s) (λZ Z Z x=>x) p s (h Γ p a b c)
theorem c9{a:α}{Q:α->CI->Prop}(h:Q a s):ai M A (pure a) Q s:=λZ Z Z Z Z=>h
theorem bv{m:Sem α}{f:α->Sem β}{Q:β->CI->Prop}(h:ai M A m (λa s'=>ai M A (f a) Q s') s):ai M A (m>>=f) Q s:=λΓ p a b c=>by rw[Mw];exact Hz M Γ m (λx p' s' h'=>h' Γ p' a b c) (λZ Z Z h'=>h') p s (h Γ p a b c)
theorem re{t:Sem α}{Q:α->CI->Prop}(h:∀Q':α->CI->Prop,(∀a s,Q a s->Q' a s)->ai M A t Q' s):ai M A t Q s:=h Q λZ Z x=>x
theorem bg{m:Sem α}{f:α->Sem β}{Q:β->CI->Prop}(h:CH M A m (λa s'=>ai M A (f a) Q s') bH s):ai M A (m>>=f) Q s:=bv (c8 h)
theorem pg{m:Sem α}{k:CE->Sem Unit}{Q:α->CI->Prop}(h:ai M A m Q s):ai M A (m.onRaise k) Q s:=λΓ p a b c=>by rw[Sem.wp_onRaise];exact Hz M Γ m (λZ Z Z h'=>h') (λZ Z Z h'=>h'.elim) p s (h Γ p a b c)
theorem jb{vs:List CE}{m:Sem α}{Q:α->CI->Prop}(h:ai M A m Q s):ai M A (holding vs m) Q s:=λΓ p a b c=>by rw[Sem.wp_holding];exact h Γ p a b c
theorem aqL{vs:List CE}{m:Sem α}{Q:α->CI->Prop}(h:ai M A m Q s):ai M A (m.keep vs) Q s:=λΓ p a b c=>by rw[Sem.wp_keep];exact h Γ p a b c
theorem hG{Q:Unit->CI->Prop}(h:Q () s):ai M A (standAt pos) Q s:=c8 (DT h)
theorem aaZ{Γ:PySem.Ctx}{c:Code}{h:Option CE}(a:jk Γ.code=true)(b:li Γ.below):li (Γ.enter c h p).below:=λx hx=>by
 rcases CX.mp hx with rfl |hx
 ·exact a
 ·exact b x hx
theorem aqM{c:Code}{Q:Flow->CI->Prop}(hc:dn M A c Q s):ai M A (PySem.run c) Q s:=λΓ p a b d=>by rw[Sem.wp_run];refine wpCode_mono (λr s' h=>?_) (hc _ p rfl (a.enter c none p (by intro x;cases x)) (aaZ b d));obtain⟨f,rfl,q⟩:=h;exact q
theorem aqN{c:Code}{Q:Flow->CI->Prop}(hc:dn M A c Q s):ai M A (runOwn c env) Q s:=by unfold runOwn;exact pg (aqM hc)
theorem kZ{f:CE}{pos:List CE}{kw:List (Str×CE)}(hc:dn M A (.call f ⟨pos,kw⟩) (λf s'=>∃v,f=.ret v/\Q v s') s):
  ai M A (call f pos kw) Q s:=λΓ p a b d=>by
 show Sem.wp M Γ (runValue _) _ _ p s;rw[Sem.wp_runValue];refine wpCode_mono (λr s' h=>?_) (hc _ p rfl (a.enter _ none p (by intro x;cases x)) (aaZ b d));(revert h;refine r_eaea λf zq1 v zq3 q=>?_;subst zq1;subst zq3);exact q
theorem j7{c:Code}{Q:Flow->CI->Prop}(hq:jk c=true)
  (h:ai M (A.under c) (M.den c) (λfin s'=>match fin with | .done f=>Q f s' | .again c'=>c'.quiet=true/\dn M A c' Q s') s):dn M A c Q s:=λΓ p hc A9 hb=>by
 rw[wpCode_iff_wp,hc];refine Hz M Γ _ (λfin p' s' h'=>?_) (λZ Z Z h'=>h'.elim) p s (h Γ p (hc▸A9.in) (hc▸hq) hb)
 cases fin with
 |done f=>exact(ae f rfl h')
 |again c'=>exact⟨h'.1,h'.2 (Γ.goto c') p' rfl (A9.goto c') hb⟩
theorem ags{c:Code}{Q:Flow->CI->Prop}(hc:jk c=true)(hq:c.quiet=true)(I:Nat->CI->Prop)
  (turn:∀n s,I n s->ai M (A.under c) (M.den c)
   (λfin s'=>match fin with
    | .done f=>Q f s'
    | .again c'=>(c'=c/\∃m,m<n/\I m s')\/(c'.quiet=true/\dn M A c' Q s')) s)
  (n:Nat) (h:I n s):dn M A c Q s:=by
 induction n using LZ generalizing s with
 |ind n ih=>
  refine j7 hc (cQ (turn n s h) (λfin s' hf=>?_))
  cases fin with
  |done f=>exact hf
  |again c'=>
   rcases hf with⟨rfl,m,hm,hI⟩ |hf
   ·exact⟨hq,ih m hm hI⟩
   ·exact hf
theorem ajY{b:Bool}(h:(!b)=true):b=false:=by cases b;rfl;cases h
theorem hn{x y:String}(q:gL.contains x=false)(h:gL.contains y=true):x≠y:=λe=>by rw[e,h] at q;cases q
theorem rb{x:String}(q:gL.contains x=false):Kh.contains x=false:=by refine Ka.mpr λh=>?_;have q2:gL.contains x=true:=Ib.mpr (Jo _ (Ib.mp h));rw[q2] at q;cases q
theorem aif{Q:Bool->CI->Prop}(h:Q false s):ai M A (IL self) Q s:=λΓ p a b c=>by
 unfold IL;rw[Mw];show Q (List.any ((Γ.code,p)::Γ.below) _) s;have key:li ((Γ.code,p)::Γ.below):=λx hx=>by
  rcases CX.mp hx with e |hx
  ·rw[e];exact b
  ·exact c x hx
 refine Eq.mpr (CN (λb=>Q b s) (Ia.mpr λx hx=>?_)) h;have q:=key x hx;refine Ka.mp ?_;cases x with |mk cd ps=>?_
 cases cd with
 |builtin id args=>
  have n:gL.contains id=false:=ajY q;delta M5
  refine(dif_neg (hn n (by decide:gL.contains "bytearray.__contains__"=true))).trans ?_
  refine(dif_neg (hn n (by decide:gL.contains "bytearray.__mod__"=true))).trans ?_
  refine(dif_neg (hn n (by decide:gL.contains "bytearray.__rmod__"=true))).trans ?_
  refine(dif_neg (hn n (by decide:gL.contains "_struct.pack_into.held"=true))).trans ?_
  refine(dif_neg (hn n (by decide:gL.contains "bytearray.find.held"=true))).trans ?_
  cases args with |mk l kw=>?_
  cases l with
  |nil=>rfl
  |cons v l=>exact(CN (M8 v self&&·) (rb n)).trans (HM _)
 |_=>rfl
end
section
theorem agt{c:Code}{Q:Flow->CI->Prop}(h:codeAny M A c (λr s'=>∃f,r=.ok f/\Q f s') s):dn M A c Q s:=λΓ p a b Z=>h Γ p a b
theorem hZ{rest:List Stmt}{Q:Flow->CI->Prop}(h:ai M A (EW st env) (λf s'=>match f with | .next=>ai M A (DC rest env) Q s' |f=>Q f s') s):ai M A (DC (st::rest) env) Q s:=by rw[execs_cons];refine bv (cQ h λf s' h'=>?_);cases f<;>first |exact h' |exact c9 h'
theorem aeW{test:CJ}{orelse:List Stmt}{Q:Flow->CI->Prop}(h:ai M A (isTrue test env (eval test env)) (λb tM=>if b then ai M A (DC body env) Q tM else ai M A (DC orelse env) Q tM) s):
  ai M A (EW (.If test body orelse pos) env) Q s:=by
 rw[exec_If];refine bv (hG (bv (cQ h λb tM t6=>?_)));cases b<;>exact t6
theorem ae2{x:CJ}{whole:Sem CE}{Q:Bool->CI->Prop}(h:ai M A (isTrue x env (eval x env)) (λb tz=>Q (!b) tz) s):ai M A (isTrue (.UnaryOp .Not x pos) env whole) Q s:=by rw[arm_isTrue_UnaryOp];exact bv (cQ h λb tz tC=>c9 tC)
theorem ae6{x y:CJ}{whole:Sem CE}{Q:Bool->CI->Prop}(h:ai M A (isTrue x env (eval x env)) (λb tz=>if b then Q true tz else ai M A (isTrue y env (eval y env)) Q tz) s):
  ai M A (isTrue (.BoolOp .Or [x,y] pos) env whole) Q s:=by
 rw[arm_isTrue_BoolOp];show ai M A (do match Kd,<-isTrue x env (eval x env) with | .And,false=>pure false | .Or,true=>pure true |_,_=>allTrue .Or [y] env) Q s
 refine bv (cQ h λb tz tC=>?_)
 cases b with
 |true=>exact c9 tC
 |false=>
  show ai M A (do match Kd,<-isTrue y env (eval y env) with | .And,false=>pure false | .Or,true=>pure true |_,_=>allTrue .Or [] env) Q tz
  refine bv (cQ tC λb tM t6=>?_);cases b<;>exact c9 t6
theorem ae3{e:CJ}{whole:Sem CE}{Q:Bool->CI->Prop}(h:ai M A whole (λv tz=>∃b,v=.bool b/\Q b tz) s)
  (he:isTrue e env whole=(do let v<-whole;standAt e.pos;holding [v] (truthy v)):=by rfl):ai M A (isTrue e env whole) Q s:=by
 rw[he];refine bv (cQ h λv tz tC=>?_);obtain⟨b,rfl,q⟩:=tC;exact c8 (wpAny_bind (DT (DB (EY q))))
theorem pq{e:CJ}{Q:Flow->CI->Prop}(h:ai M A (eval e env) (λv=>Q (.ret v)) s):ai M A (EW (.Return (some e) pos) env) Q s:=by rw[exec_Return_some];exact bv (hG (bv (cQ h λv tz tC=>c9 tC)))
theorem aeZ{r:CJ}{op:Operator}(h:CH M A (eval l env) (λa tz=>ai M A (eval r env) (λb tM=>CH M A (binaryOp op a b) Q bH tM) tz) bH s):
  ai M A (eval (.BinOp l op r pos) env) Q s:=by
 rw[eval_BinOp];refine bg (C7 h (λa tz tC=>bv (jb (cQ tC λb tM t6=>?_))) λZ Z x=>x);refine bv (hG (c8 λΓ p A9=>?_));rw[Sem.wp_operate];exact t6 Γ p A9
theorem aeP{d:Prop}[Decidable d]{x y:Sem α}{Q:α->CI->Prop}(h1:ai M A x Q s)(h2:ai M A y Q s):ai M A (if d then x else y) Q s:=if e:d then by rw[CM e];exact h1 else by rw[CQ e];exact h2
theorem aae{f:CE}{first:List CE}{P:CL->Prop}{args:List (Bool×Sem CE)}(arA:(args.any (·.1))=false)
  (hk:∀h,P h->∃k,(k=KR\/k=KS\/k=KP)/\Looks M h (keeperOf f) k)
  (h:ai M A (spliced args) (λvs tz=>P tz.heap/\ai M A (call f (first++vs) []) Q tz) s):ai M A (callWith pos f first args []) Q s:=by
 have asu:ai M A (evalArgs f true args []) (λa tz=>P tz.heap/\ai M A (call f (first++a.pos) a.kw) Q tz) s:=by
  have tail:∀vs s',(P s'.heap/\ai M A (call f (first++vs) []) Q s')->ai M A (holding vs (do
    let kw:= []
    return(⟨vs,kw⟩:Args))) (λa tz=>P tz.heap/\ai M A (call f (first++a.pos) a.kw) Q tz) s':=λvs s' h=>jb (c9 h)
  match args,arA,h with
  |[],_,h=>unfold evalArgs;show ai M A (spliced []>>=_) _ s;refine bv (cQ h λvs s' h'=>?_);exact jb (c8 (wpAny_bind (wpAny_pure (wpAny_bind (wpAny_pure (wpAny_pure h'))))))
  |(false,x)::rest,_,h=>unfold evalArgs;show ai M A (spliced ((false,x)::rest)>>=_) _ s;refine bv (cQ h λvs s' h'=>?_);exact jb (c8 (wpAny_bind (wpAny_pure (wpAny_bind (wpAny_pure (wpAny_pure h'))))))
  |(true,x)::rest,hp,_=>cases hp
 unfold callWith;refine bv (jb (cQ asu λa tz tC=>bv (hG ?_)));obtain⟨k,wY,L⟩:=hk _ tC.1;rw[arA];refine bg (L.here ?_);have tail:∀{t:Sem CE},ai M A t Q tz->ai M A (t>>=λr=>holding [r] point>>=λZ=>pure r) Q tz:=λht=>bv (cQ ht λr tM hr=>c8 (wpAny_bind (DB (J0 (wpAny_pure hr)))))
 have marked (mk:CE):ai M A (callMarked mk f (first++a.pos) a.kw) Q tz:=by unfold callMarked;exact aqL tC.2
 clear L;rcases wY with rfl |rfl |rfl
 ·exact aeP (tail tC.2) (tail (marked _))
 ·exact tail tC.2
 ·exact aeP (tail tC.2) (tail (marked _))
theorem ae8{x:Sem CE}{rest:List (Bool×Sem CE)}{Q:List CE->CI->Prop}(h:ai M A x (λv tz=>ai M A (spliced rest) (λvs tM=>Q (v::vs) tM) tz) s):ai M A (spliced ((false,x)::rest)) Q s:=by rw[spliced];refine bv (cQ h λv tz tC=>?_);simp -iota only[Fn,Fj];exact bg (wpAny_pure (bv (jb (cQ tC λvs tM t6=>c9 t6))))
theorem lk{args:List CJ}{trees:List (Bool×Sem CE)}(ht:backTo pos (starEach args env)=trees)
  (h:CH M A (eval (.Name x p) env) (λf tz=>ai M A (callWith pos f [] trees []) Q tz) bH s):ai M A (eval (.Call (.Name x p) args [] pos) env) Q s:=by
 subst ht;exact bg h
end
section
theorem aeU{e:CJ}{Q:Flow->CI->Prop}(h:ai (CG prog w) A (eval e env) (λZ=>Q .next) s)(hi:interactive env=false)(hs:swapsWith e none pos.line env=pure false):ai (CG prog w) A (EW (.Expr e pos) env) Q s:=by rw[exec_Expr env e pos hi hs];exact bv (hG (bv (cQ h λv s' h'=>c8 (wpAny_dropValue h'))))
theorem ae1{it:CE}{Q:Flow->CI->Prop}(I:Nat->CI->Prop)
  (turn:∀n s (N:CI->Prop) (K1:Option CE->CI->Prop),(∀m s,m<n->I m s->N s)->(∀tz,Q .next tz->K1 none tz)->
   (∀v tz,CH (CG prog w) A (FV target it v) (λZ u4=>CH (CG prog w) A (assign target env v) (λZ tM=>ai (CG prog w) A (DC body env) (λf ul=>f=.next/\N ul) tM) bH u4) bH tz->K1 (some v) tz)->I n s->CH (CG prog w) A (pyNext it) K1 bH s)
  (n:Nat) (h:I n s):dn (CG prog w) A (.forLoop target it body [] env) Q s:=by
 refine ags rfl rfl I (λn s hI=>?_) n h;have hA:A.under (.forLoop target it body [] env)=A:=Around.under_of_weight rfl;rw[hA];show ai _ _ ((forTurn target it body [] env).onRaise (λx=>do noteFrame x env;theTreesLotGoes x)) _ s
 refine pg ?_;simp -iota only[forTurn];refine bv (hG (bv (pg (c8 (C7 (turn n s (λs=>∃m,m<n/\I m s) (λr tz=>match r with
   |none=>Q .next tz
   |some v=>CH (CG prog w) A (FV target it v) (λZ u4=>CH (CG prog w) A (assign target env v) (λZ tM=>ai (CG prog w) A (DC body env) (λf ul=>f=.next/\∃m,m<n/\I m ul) tM) bH u4) bH tz) (λm Z a b=>⟨m,a,b⟩) (λZ h=>h) (λZ Z h=>h) hI) (λr tz tC=>?_) λZ Z h'=>h')))))
 cases r with
 |none=>exact c9 (.inr ⟨rfl,agt (codeAny_block (Fk (ae _ rfl tC)))⟩)
 |some v=>refine bg (C7 tC (λZ u4 xk=>?_) λZ Z h'=>h');refine bg (C7 xk (λZ tM t6=>bv (cQ t6 λf ul vP=>?_)) λZ Z h'=>h');obtain⟨rfl,vP⟩:=vP;exact c9 (.inl ⟨rfl,vP⟩)
theorem aeV{iter:CJ}{Q:Flow->CI->Prop}
  (h:CH (CG prog w) A (eval iter env) (λx tz=>CH (CG prog w) A (pyIter x) (λit tM=>dn (CG prog w) A (.forLoop target it body [] env) Q tM) bH tz) bH s)
  (hs:∀x,foldedSetIterable iter env x=pure x):ai (CG prog w) A (EW (.For target iter body [] pos) env) Q s:=by
 rw[exec_For];exact bv (hG (bg (C7 h (λx tz tC=>bg (Da (hs x) (bv (hG (bg (DB
  (C7 tC (λit tM t6=>aqN t6) λZ Z h'=>h'))))))) λZ Z h'=>h')))
theorem agr{Q:Flow->CI->Prop}(h:ai (CG prog w) (A.deeper env) (DC body env) (λf s'=>Q (.ret (match f with | .ret v=>v |_=>.none)) s') s):dn (CG prog w) A (.func body env) Q s:=by
 refine j7 rfl ?_;show ai _ (A.deeper env) (do point;match<-(DC body env).onRaise (leaving env) with | .ret v=>ret v |_=>ret .none) _ s
 refine bg (J0 (bv (pg (cQ h λf s' h'=>?_))));cases f<;>exact c9 h'
theorem agq{a:CF}{o:Obj}{vals:List CE}{binds:List (Str×CE)}{Q:Flow->CI->Prop}
  (xi:A.depth<recursionLimit) (ho:s.heap.get? a=some o) (asz:o.data=.func fd) (wO:s.heap.NoLimit) (hcd:s.heap.CodeRec fd.code fd.qualname)
  (asw:fd.body=.stmts body) (asv:bindArgs fd ⟨vals,[]⟩=pure binds) (uE:fd.closure=[])
  (asH:∀x∈binds,fd.scope.names.lookup x.1=some .local\/(fd.scope.names.lookup x.1=some .cell/\((cellsFrom (s.heap.objs.size+1) fd.scope.names []).lookup x.1).isSome=true))
  (h:∀tz,InCallC s (C0 fd s.heap.objs.size a).locals (bindL (C0 fd s.heap.objs.size a).kindOf binds λZ=>none) (C0 fd s.heap.objs.size a).cells
    (bindC (C0 fd s.heap.objs.size a).kindOf binds λZ=>none) tz->
   ai (CG prog w) (A.deeper (C0 fd s.heap.objs.size a)) (DC body (C0 fd s.heap.objs.size a)) (λf s'=>Q (.ret (match f with | .ret v=>v |_=>.none)) s') tz)
  (hco:fd.scope.isCoroutine=false) (atj:fd.scope.isGenerator=false) (hk:fd.scope.kind=.function):
  dn (CG prog w) A (.call (.ref a) ⟨vals,[]⟩) Q s:=by
 refine j7 rfl ?_;show ai _ A.in1 (callAny (.ref a) ⟨vals,[]⟩) _ s;show ai _ A.in1 (load a>>=_) _ s;refine bg (Gm ho ?_);rw[asz];show ai _ A.in1 (callFunction a fd ⟨vals,[]⟩) _ s;(revert hcd;refine r_eeeeaa λc oc vs tq hc Cg=>r_a λrb hq=>?_);delta callFunction;rw[hc,hco,atj,asw];dsimp only;refine bg (m:=field (.ref c) 1) (EP Cg rb hq (bg (wpAny_pure ?_)));rw[asv,uE];refine bg (wpAny_pure (bg ?_));rw[<-hc];refine wpAny_newFunctionEnv_cells hk asH λenv he s' x=>?_;subst he;exact bg (wpAny_enterFrame (wO.keeps x.toInCall.keep) xi (c9 ⟨rfl,agr (h s' x)⟩))
end
namespace BA
theorem mro:mroOf (.type "bytearray")=pure [.type "bytearray",.type "object"]:=by rw[mroOf_type];kernel_rfl
theorem ajb:typeLookup (.type "bytearray") "__new__"=pure (some (.builtin "bytearray.__new__")):=by rw[ED,EC];kernel_rfl
theorem sub:isSubtype (.type "bytearray") (.type "bytearray")=pure true:=by rw[Iz];kernel_rfl
theorem uT:Slot "bytearray" "__init__" "bytearray.__init__":=
 .of (owner:="bytearray") (n:="__init__") (by rw[ED,EC];kernel_rfl) (by decide+kernel) (by decide+kernel) (by decide+kernel)
  (by first |exact .inl (by decide+kernel) |exact .inr (by decide+kernel)) sub
theorem vc:Slot "bytearray" "append" "bytearray.append":=
 .of (owner:="bytearray") (n:="append") (by rw[ED,EC];kernel_rfl) (by decide+kernel) (by decide+kernel) (by decide+kernel)
  (by first |exact .inl (by decide+kernel) |exact .inr (by decide+kernel)) sub
theorem aro:typeOf (.builtin "bytearray.append")=pure (.type "method_descriptor"):=by show builtinType _=_;rw[ME];kernel_rfl
theorem arq:PlainAttrs "bytearray":=
 ⟨(ae "bytearray.__getattribute__" (by rw[ED,EC];kernel_rfl) (by decide+kernel)),by rw[ED,EC];kernel_rfl⟩
theorem made:TypeCalled "bytearray" "bytearray.__new__" "bytearray.__init__":=⟨by decide+kernel,by decide+kernel,(cK _ _ mro),madeBy_type mro ajb (by decide+kernel),by decide+kernel,sub,uT⟩
theorem typeCall:checkTypeCall "bytearray" ⟨[],[]⟩=pure ():=by kernel_rfl
theorem arL:Fi "bytearray.__new__" ⟨[.type "bytearray"],[]⟩=pure ():=by kernel_rfl
theorem arv:entryFor table "bytearray.__new__"=some Builtin.«list.__new__»:=entryFor_alias (id':="list.__new__") (by kernel_rfl) rfl (by decide+kernel) (by kernel_rfl)
theorem arp:entryFor table "bytearray.__init__"=some Builtin.«bytearray.__init__»:=JP (by kernel_rfl)
theorem ard:entryFor table "bytearray.append"=some Builtin.«bytearray.append»:=JP (by kernel_rfl)
theorem arf(a b:CE):argsOk "bytearray.append" ⟨[a,b],[]⟩:=by unfold argsOk;kernel_rfl
theorem art(a:CE):argsOk "bytearray.__init__" ⟨[a],[]⟩:=by unfold argsOk;kernel_rfl
theorem arc:plainId "bytearray.__new__"=true:=by decide+kernel
set_option maxRecDepth 1000000 in
set_option maxHeartbeats 4000000 in
theorem arx:("bytearray.__new__".splitOn ".__new__").headD ""="bytearray":=by simp+decide [String.splitOn,String.splitOnAux]
end BA
section
theorem abj{id:String}{args:Args}{b:Builtin}{Q:Flow->CI->Prop}(hc:jk (.builtin id args)=true)(hb:entryFor table id=some b)
  (h:ai (CG prog w) (A.under (.builtin id args)) (b args) (λfin s'=>match fin with | .done f=>Q f s' | .again c'=>c'.quiet=true/\dn (CG prog w) A c' Q s') s):dn (CG prog w) A (.builtin id args) Q s:=by
 refine j7 hc ?_
 show ai _ _ (match entryFor table id with |some b=>b args |none=>unsupported ((withoutEnding? id "#data").getD id)) _ s
 rw[hb];exact h
theorem abk{id:String}{args:Args}{b:Builtin}{Q:Flow->CI->Prop}(hc:jk (.builtin id args)=true)(hq:plainId id=true)(hb:entryFor table id=some b)
  (h:CH (CG prog w) A.in1 (Fi id args) (λZ tz=>ai (CG prog w) A.in1 (b args) (λfin s'=>match fin with | .done f=>Q f s' | .again c'=>c'.quiet=true/\dn (CG prog w) A c' Q s') tz) bH s):
  dn (CG prog w) A (.call (.builtin id) args) Q s:=by
 refine j7 rfl ?_;show ai _ A.in1 (do Fi id args;again (.builtin id args)) _ s
 refine bg (C7 h (λZ tz tC=>c9 ⟨GS hq _,abj hc hb ?_⟩) λZ Z x=>x);rw[HK hq args];exact tC
theorem agu{Q₁:CE->CI->Prop}(h:Q₁ (.ref s.heap.objs.size) {s with heap:=s.heap.push {cls:=.type "bytearray",data:=.bytearray #[]}}):
  codeAny (CG prog w) A (.call (.builtin "bytearray.__new__") ⟨[.type "bytearray"],[]⟩) (wants Q₁ E) s:=by
 refine HG ?_
 show CH _ A.in1 (do Fi "bytearray.__new__" ⟨[.type "bytearray"],[]⟩;again (.builtin "bytearray.__new__" ⟨[.type "bytearray"],[]⟩)) _ _ s
 refine wpAny_bind (Da BA.arL (wpAny_pure ⟨GS BA.arc _,codeAny_builtin_stack BA.arv rfl λp st=>?_⟩));rw[HK BA.arc _];have atY:=BA.sub;have atq:=BA.arx;obtain⟨hp,g,d,tk,os⟩:=s;simp only[atq]
 wp_walk
 exact h
end
section
theorem iz{c:Bool}{a b:Sem α}{Q:α->CI->Prop}(hc:c=false)(h:ai M A b Q s):ai M A (if c=true then a else b) Q s:=by subst hc;exact h
theorem aag{Q:Bool->CI->Prop}(hT:s.TypeIs self "bytearray")(h:Q false s):CH M A (Ki self) Q E s:=by
 have hl:typeLookup (.type "bytearray") "__release_buffer__"=pure (some (.builtin "bytearray.__release_buffer__")):=by rw[ED,EC];kernel_rfl
 unfold Ki IN;refine wpAny_bind (wpAny_bind (DS hT hl ?_));dsimp only;refine DL (by decide+kernel) ?_
 rw[show("bytearray.__release_buffer__".dropRight ("__release_buffer__".length+1))="bytearray" by decide+kernel]
 exact GT (T:="bytearray") (b:=true) hT BA.sub (wpAny_pure h)
theorem aaf{a:CF}{b:Array UInt8}{Q:Bool->CI->Prop}(ho:s.heap.get? a=some ob)(hd:ob.data=.bytearray b 0)(h:Q false s):
  ai M A (IL (.ref a) <||> (do return(<-IM (.ref a))>0)) Q s:=by
 refine bv (aif ?_);show ai M A (do return decide ((<-IM (.ref a))>0)) Q s
 unfold IM;refine c8 (wpAny_bind (wpAny_bind (Gm ho ?_)));rw[hd];exact wpAny_pure (wpAny_pure h)
theorem aah{a:CF}{b:Array UInt8}{f:Array UInt8->Array UInt8}{Q:Unit->CI->Prop}(ho:s.heap.get? a=some ob)(hd:ob.data=.bytearray b 0)(hz:(f b).size<=sizeLine)(h:Q () {s with heap:=s.heap.update a (Hu f)}):
  CH M A (M9 (.ref a) f) Q E s:=by
 show CH M A (updateBytearray a f) Q E s;unfold updateBytearray;refine wpAny_bind (Gm ho ?_);rw[hd];refine wpAny_bind (wpAny_update ho ?_);have h2:=Eu (Hu f) ho (by
  obtain⟨cl,di,da,sl⟩:=ob;dsimp only at hd;clear ho;subst hd;rfl)
 refine JX h2 ?_ h;obtain⟨cl,di,da,sl⟩:=ob;dsimp only at hd;clear ho h2;subst hd
 show(if(f b).size>sizeLine then some "bytearray:memory" else none)=none
 rw[CQ (Ey.mpr hz)]
theorem ae5(hQ:∀h',(∀b o,s.heap.get? b=some o->h'.get? b=some o)->h'.get? s.heap.objs.size=some {cls:=.type "bytearray",data:=.bytearray #[]}->Q (.ref s.heap.objs.size) {s with heap:=h'}):
  ai (CG prog w) A (call (.type "bytearray") []) Q s:=by
 refine kZ (j7 rfl ?_);refine c9 ⟨IP _ (by decide+kernel),abj (by decide+kernel) F.entry_type_call ?_⟩
 rw[Around.under_plain (weight_type_call_type "bytearray" [] []) rfl]
 have h1:=BA.made.notType;have h2:=BA.made.canCreate;have asM:=BA.made.made;unfold Builtin.«type.__call__»;refine iz h1 ?_;refine iz h2 ?_;refine bg (Da BA.typeCall ?_);refine bg (Da BA.mro ?_);refine iz rfl ?_;refine bg (Da asM ?_);refine bg (wpAny_pure ?_)
 refine bg (DB (FX (codeAny_mono (agu (E:=bH) (Q₁:=λv s'=>v=.ref s.heap.objs.size/\s'={s with heap:=s.heap.push {cls:=.type "bytearray",data:=.bytearray #[]}}) ⟨rfl,rfl⟩) λr tz hr=>?_)))
 cases r with
 |error e=>exact hr
 |ok fl=>
  cases fl with
  |ret obj=>
   obtain⟨rfl,rfl⟩:=hr
   have hS:(s.heap.push {cls:=.type "bytearray",data:=.bytearray #[]}).get? s.heap.objs.size=some {cls:=.type "bytearray",data:=.bytearray #[]}:=DG _ rfl
   have hT:({s with heap:=s.heap.push {cls:=.type "bytearray",data:=.bytearray #[]}}:CI).TypeIs (.ref s.heap.objs.size) "bytearray":=(ae _ hS rfl)
   refine bg (GT (T:="bytearray") (b:=true) hT BA.sub ?_)
   refine iz rfl ?_;refine bv (jb ?_);simp -iota only[callSpecial?];refine bg (DS hT BA.uT.lookup ?_);dsimp only;rw[BA.uT.bind];refine jb (bg (wpAny_pure (bv (kZ (abk rfl BA.uT.plain BA.arp (BA.uT.check _ _ _ _ _ _ _ _ hT (BA.art _) ?_))))));unfold Builtin.«bytearray.__init__»;refine bg (aag hT ?_);refine iz rfl ?_;refine bg (Da (a:= [none,none,none]) (by kernel_rfl) ?_);refine bg (wpAny_pure ?_);refine bg (wpAny_pure ?_);refine bv (aaf hS rfl ?_);refine iz rfl ?_;refine bg (aah hS rfl (by decide) ?_);refine bg (wpAny_pure ?_);refine c9 (ae _ rfl ?_);refine c9 ?_;refine iz rfl ?_;refine c9 (ae _ rfl (hQ _ (λb o e=>?_) ?_))
   ·exact(Ek _ _ (C2 (Dh e))).trans (Dc _ e)
   ·exact Eu (Hu λZ=>#[]) hS rfl
  |_=>exact hr.elim
theorem aeX{a:CF}{b:List UInt8}{i:Int}(ho:s.heap.get? a=some {cls:=.type "bytearray",data:=.bytearray b.toArray})(h0:0<=i)(h1:i<256)(hz:b.length<al)
  (hQ:Q .none {s with heap:=s.heap.update a (Hu (·.push i.toNat.toUInt8))}):ai (CG prog w) A (call (.builtin "bytearray.append") [.ref a,.int i t]) Q s:=by
 have hT:s.TypeIs (.ref a) "bytearray":=(ae _ ho rfl)
 refine kZ (abk rfl BA.vc.plain BA.ard (BA.vc.check _ _ _ _ _ _ _ _ hT (BA.arf _ _) ?_));unfold Builtin.«bytearray.append»;refine bg (Da (a:=(.ref a,.int i t)) rfl ?_);dsimp only;refine bg (m:=Ke (.int i t)) ?_;unfold Ke;refine wpAny_bind (Da (rfl:asIndex (.int i t)=pure i) ?_);refine DL (by simp only[EZ,FU];exact⟨El.mpr h0,IY.mpr h1⟩) ?_;refine wpAny_pure (bv (m:=Kf (.ref a)) ?_);unfold Kf;refine bv (aaf ho rfl ?_);refine iz rfl ?_;refine c9 (bg (aah ho rfl (by rw[Array.size_push,Dk,fG];rw[dN] at hz;exact JA hz) (c9 (ae _ rfl hQ))))
end
namespace BA
theorem arM:typeLookup (.type "bytearray") "__bytes__"=pure none:=by rw[ED,EC];kernel_rfl
theorem buffer:typeLookup (.type "bytearray") "__buffer__"=pure (some (.builtin "bytearray.__buffer__")):=by rw[ED,EC];kernel_rfl
theorem arN:typeLookup (.type "bytearray") "__index__"=pure none:=by rw[ED,EC];kernel_rfl
end BA
section
theorem ae7{Q:Bool->CI->Prop}(hT:s.TypeIs self "bytearray")(h:Q true s):CH M A (IN self "__buffer__") Q E s:=by
 unfold IN;refine wpAny_bind (DS hT BA.buffer ?_);dsimp only;refine DL (by decide+kernel) ?_
 rw[show("bytearray.__buffer__".dropRight ("__buffer__".length+1))="bytearray" by decide+kernel]
 exact GT (T:="bytearray") (b:=true) hT BA.sub h
theorem afE{a:CF}{b:List UInt8}(ho:s.heap.get? a=some {cls:=.type "bytearray",data:=.bytearray b.toArray})(hz:b.length<=al)(hQ:∀t,Q (.bytes b.toArray t) {s with toks:=s.toks+1}):
  codeAny (CG prog w) A (.call (.builtin "bytes.__new__") ⟨[.type "bytes",.ref a],[]⟩) (wants Q E) s:=by
 refine HG ?_
 show CH _ A.in1 (do Fi "bytes.__new__" ⟨[.type "bytes",.ref a],[]⟩;again (.builtin "bytes.__new__" ⟨[.type "bytes",.ref a],[]⟩)) _ _ s
 refine wpAny_bind (Da (F.bm_newCall _) (wpAny_pure ⟨GS HT _,JN F.bm_entry ?_⟩));rw[HK HT _]
 have hT:s.TypeIs (.ref a) "bytearray":=(ae _ ho rfl)
 unfold Builtin.«bytes.__new__»;refine wpAny_bind (Da (a:=true) rfl ?_);refine DL rfl ?_;refine wpAny_bind (Da F.bm_sub ?_);refine DL rfl ?_;refine wpAny_bind (Da (F.bm_bind _) ?_);refine wpAny_bind (Da (a:=()) rfl ?_);refine wpAny_bind (Da (a:=()) rfl ?_);refine DL rfl ?_;refine wpAny_bind (DS hT BA.arM ?_);refine wpAny_bind (wpAny_bind ?_);show CH _ _ (load a>>=_) _ _ _;refine wpAny_bind (Gm ho ?_);refine wpAny_pure (wpAny_pure ?_);refine DL rfl ?_;refine wpAny_bind (DS hT BA.arN ?_);refine GR rfl ?_
 first
  |show CH _ _ (IK "bytes.__new__" (.ref a) true>>=_) _ _ _
  |(refine wpAny_bind ?_;show CH _ _ (IK "bytes.__new__" (.ref a) true>>=_) _ _ _)
 refine wpAny_bind ?_;unfold IK;refine wpAny_bind (DS hT BA.buffer ?_);refine wpAny_bind (ae7 hT ?_);refine DL rfl ?_;refine wpAny_bind (DS hT BA.buffer ?_);refine wpAny_bind (aag hT ?_);refine DL rfl ?_;refine wpAny_bind ?_;unfold M6 M7;refine wpAny_bind (wpAny_bind (Gm ho ?_));refine wpAny_pure (wpAny_pure (wpAny_pure ?_));refine wpAny_bind (HJ ?_);refine wpAny_bind (JY ?_ (by rw[Dk,fG];rw[dN] at hz;exact adw hz))
 show CH _ _ (if(Fw "bytes"==Fw "bytes")=true then _ else _) _ _ _
 refine GR (by decide) ?_
 first
  |exact wpAny_pure (hQ _)
  |exact wpAny_bind (wpAny_pure (wpAny_pure (hQ _)))
theorem afD{a:CF}{b:List UInt8}(ho:s.heap.get? a=some {cls:=.type "bytearray",data:=.bytearray b.toArray})(hz:b.length<=al)(hQ:∀t,Q (.bytes b.toArray t) {s with toks:=s.toks+1}):
  CH (CG prog w) A (call (.type "bytes") [.ref a]) Q E s:=by
 refine JL (Q₁:=λobj tz=>tz.TypeIs obj "bytes"/\Q obj tz) Gx (Kn _) Ko
  (afE ho hz λt=>⟨Mr _ _ _,hQ t⟩) λobj tz tC=>?_
 exact⟨tC.1,Km obj _,MK Gx.init.lookup Gx.made (by decide) prog w A.in1 _ tz ⟨tC.1,rfl,tC.2⟩⟩
end
section
theorem vE.c{s:PS}{wA:List Stmt}(h:vE vis nk (.cons s ss) wA):∃t ts,wA=t::ts/\TS vis nk s t/\vE vis nk ss ts:=(ax _ _ h.1 h.2.1 h.2.2)
theorem vE.n{wA:List Stmt}(h:vE vis nk .nil wA):wA=[]:=h
theorem TS.e{e:PE}(h:TS vis nk (.expr e) st):∃v pos,st=.Expr v pos/\bM v=true/\TE vis nk e v:=(ax _ _ h.1 h.2.1 h.2.2)
theorem TS.r{e:PE}(h:TS vis nk (.ret e) st):∃v pos,st=.Return (some v) pos/\TE vis nk e v:=(bR _ _ h.1 h.2)
theorem TS.i{d:PE}{a b:tW}(h:TS vis nk (.ifs d a b) st):∃t x y pos,st=.If t x y pos/\TE vis nk d t/\vE vis nk a x/\vE vis nk b y:=(ef _ _ _ _ h.1 h.2.1 (bE h.2.2.1 h.2.2.2))
theorem TS.f{t:List Nat}{d:PE}{b:tW}(h:TS vis nk (.for t one d b) st):∃tg vF x pos,st=.For tg vF x [] pos:=(iQ _ _ _ _ h.1)
theorem TS.a{i:Nat}{e:PE}(h:TS vis nk (.assign (.var i) e) st):∃x v p pos,st=.Assign [.Name x p] v pos/\fK vis nk [i] [x]=true/\TE vis nk e v:=(ef _ _ _ _ (h.1.trans (CN (λt=>Stmt.Assign [t] _ _) h.2.2.1)) h.2.2.2.1 h.2.1)
theorem vg.c{e:PE}{es:ui}(h:vg vis nk (.cons e es) fs):∃f gs,fs=f::gs/\TE vis nk e f/\vg vis nk es gs:=(ax _ _ h.1 h.2.1 h.2.2)
theorem vg.n(h:vg vis nk .nil fs):fs=[]:=h
theorem TE.m{m:MT}{o:PE}{es:ui}{v:CJ}(h:TE vis nk (.tT m o es) v):∃l fs np p,v=.Call (.Attribute l (ma m) np) fs [] p/\vg vis nk es fs:=(nN _ _ _ _ h.1 h.2.2.2)
theorem TE.cl{es:ui}{v:CJ}(h:TE vis nk (.call k es) v):∃fs np p,v=.Call (.Name (cW k) np) fs [] p/\jj k=true/\glob? nk (cW k)=true/\vg vis nk es fs:=(ce _ _ _ h.1 h.2.1 h.2.2.1 h.2.2.2)
theorem TE.b{f:BI}{es:ui}{v:CJ}(h:TE vis nk (.bi f es) v)(hf:f≠.isInt):∃fs np p,v=.Call (.Name (dI f) np) fs [] p/\glob? nk (dI f)=true/\vg vis nk es fs:=(bZ _ _ _ h.1 h.2.1 ((h.2.2.resolve_right λq=>hf q.1).2))
end
noncomputable def mi(x:Int):List UInt8:= [(x.fdiv 256).toNat.toUInt8,(x.fmod 256).toNat.toUInt8]
def cO(xs:List Int):List UInt8:=(xs.map mi).flatten
section
variable {c:tN}{n:Nat}
theorem mz(h:ua c n vis nk ps es){f:CE}{first:List CE}{m:Nat}
  (S:ES c A env nk n m) (D:u6 c env vis ρ B μ H s.heap) (P:tj c s B μ tK (uj c.Γ ps m ρ H) (λvs tz=>uZ f tz.heap/\ai (CG c.prog c.w) A (call f (first++vs) []) Q tz) bH):
  ai (CG c.prog c.w) A (callWith pos f first (backTo pos (starEach es env)) []) Q s:=
 aae (P:=uZ f) (kF (env:=env) (pos:=pos) h.len).1 (λh x=>x.wq h) (c8 (h.sound A env ρ m B μ H s _ bH pos S D P))
theorem ajx{o:CJ}{name:Str}{apos:Pos}{args:List CJ}(hs:vg vis nk ps args)(hn:fv o args.length apos pos=true)
  (h:CH M A (eval o env) (λov tz=>∀pl,CH M A (getMethod ov name pl) (λfx tM=>ai M A (callWith pos fx.1 fx.2 (backTo pos (starEach args env)) []) Q tM) bH tz) bH s):
  ai M A (eval (.Call (.Attribute o name apos) args [] pos) env) Q s:=by
 simp only[fv,Bool.and_eq_true,C9] at hn;obtain⟨⟨h1,h2⟩,h3⟩:=hn;obtain⟨p1,p2⟩:=kF (env:=env) (pos:=pos) hs;rw[arm_eval_Call,rJ h1];refine bg (C7 h (λov tz tC=>bv (hG ?_)) λZ Z e=>e);have yr:methodCallForm (args.length+([]:List Keyword).length) (backTo pos (starEach args env)) (backToKw pos (keywordEach [] env))=true:=by
  unfold methodCallForm;rw[p2];show(true&&true&&decide (args.length+0+0<30))=true
  simpa using h3
 have xW:methodCallPos true o env apos pos=pure pos:=by unfold methodCallPos;simp[h2]
 unfold methodCall;rw[yr];refine bg (DB (C7 (tC _) (λfx tM t6=>bg (Da xW t6)) λZ Z e=>e))
theorem Inv.uv(I:Inv prog w B U μ H h){p:Nat}{a:CF}{b:List UInt8}(ha:μ[p]?=some a)(hb:H[p]?=some (.uv b)):
  h.get? a=some {cls:=.type "bytearray",data:=.bytearray b.toArray 0}/\b.length<=al:=by
 (obtain⟨ob,g1,zq2,_⟩:=I.objs p a _ ha hb;obtain⟨rfl,g2⟩:=zq2);exact⟨g1,g2⟩
theorem aac{Q:Flow->CI->Prop}{o a:PE}{e:CJ}{b:List UInt8}{i:Int}
  (K:t8 c n) (T:FE c U0 A env nk n) (F:FS true c.prog c.w U0 env vis ρ B μ H U s.heap) (G:ur c.prog c.w B) (ht:TE vis nk (.tT .append o (.cons a .nil)) (.Call (.Attribute l "append" np) [e] [] p))
  (h1:ev c.Γ o 4 ρ H=.ok (.ref q) H) (h2:ev c.Γ a 4 ρ H=.ok (.int i) H) (hb:H[q]?=some (.uv b)) (h0:0<=i) (as8:i<256) (hz:b.length<al)
  (k:∀B' tB h' t',B.StaysIn B'->Pre μ tB->FS true c.prog c.w U0 env vis ρ B' tB (H.set q (.uv (b++[i.toNat.toUInt8]))) U h'->Q .next {s with heap:=h',toks:=t'}):
  ai (CG c.prog c.w) A (EW (.Expr (.Call (.Attribute l "append" np) [e] [] p) pos) env) Q s:=by
 have yw:=jD ht rfl pos.line env none;refine aeU ?_ (by unfold interactive;rw[T.kind];rfl) yw;have hn:fv l 1 np p=true:=ht.2.1;have ho:TE vis nk o l:=ht.2.2.1;have ha:TE vis nk a e:=ht.2.2.2.2.1;clear ht;have S:=T.es F;have D:=cL F G;refine ajx (ps:=.cons _ .nil) ⟨rfl,ha,rfl⟩ hn ((cG K.CO K.NO K.LR K.ZR ho U).v A env ρ 4 B μ H s _ bH S D ?_);rw[show(c.tF U).Γ=c.Γ from rfl,h1];intro B' tB h' t' ov hB tQ I v pl;obtain⟨x,e,hx⟩:=(v.r);clear v;subst e;obtain⟨g1,g2⟩:=I.uv hx hb;refine Gj (ae _ g1 rfl) BA.arq BA.vc BA.aro (λb e=>by cases e;exact(ae _ g1 rfl)) ?_;have D':u6 (c.tF U) env vis ρ B' tB H h':=D.step hB tQ I;refine mz (c:=c.tF U) (s:={s with heap:=h',toks:=t'}) (.cons (cG K.CO K.NO K.LR K.ZR ha U) .nil) S D' ?_;dsimp only[E2.cons,E2.nil];rw[show(c.tF U).Γ=c.Γ from rfl,h2];intro B2 vN h2 t2 tA u5 uk I2 vs;refine⟨.inl ⟨_,rfl⟩,?_⟩;refine o_ea vs.o1 λcv e v1=>o_e v1.i λt e'=>?_;clear vs v1;subst e';subst e;obtain⟨g3,g4⟩:=I2.uv (uk _ _ hx) hb;refine aeX (s:={s with heap:=h2,toks:=t2}) g3 h0 as8 hz ?_;have e2:=Eu (Hu (·.push i.toNat.toUInt8)) g3 rfl;refine k B2 vN _ t2 (λZ Z e=>u5 _ _ (hB _ _ e)) (tQ.trans uk) (F.step (λZ Z e=>u5 _ _ (hB _ _ e)) (tQ.trans uk) (I2.upd (uk _ _ hx) (Gy ..).extBut e2 ⟨?_,?_⟩ ?_))
 ·exact CN (λx=>({cls:=.type "bytearray",data:=.bytearray x}:Obj)) (Im ..)
 ·simp;exact JA hz
 ·rintro⟨vs,q⟩;cases q
theorem ach{p:Nat}{xs:List Int}(h:az H p=some (xs.map .int))(j:Nat):aS H (.ref p) j=some ((xs[j]?).map .int):=by unfold aS;dsimp only;rw[h];simp
theorem aj7(xs:List Int):(cO xs).length=2*xs.length:=by
 induction xs with
 |nil=>rfl
 |cons x xs ih=>unfold cO at ih⊢;rw[DY,Ig,List.length_append,ih,Di];show 2+_=_;exact am8
theorem aj8{xs:List Int}{x:Int}(h:xs[j]?=some x):cO (xs.take (j+1))=cO (xs.take j)++mi x:=by unfold cO;rw[Fb,h];simp
theorem ka{i m:Nat}(h:ρ[i]?=some v)(h1:v≠.undef)(h2:∀k,v≠.fn k):ev Γ (.var i) m ρ H=.ok v H:=by rw[E1.var];rw[h];clear h;cases v<;>first |rfl |exact CP rfl h1 |exact CP rfl (h2 _)
theorem ae4{Q:Flow->CI->Prop}{p:Nat}{d:AV}{xs:List Int}
  (K:t8 c n) (T:FE c U0 A env nk n) (F:FS true c.prog c.w U0 env vis [.ref p,d,.ref q,.undef] B μ H U s.heap) (G:ur c.prog c.w B) (uz:bQ vis=true) (vU:c.Γ.hd=false)
  (ts:TS vis nk (.for [3] true (.var 0) (.cons (.expr (.tT .append (.var 2) (.cons (.bin .fdiv (.var 3) (.tm 256)) .nil))) (.cons (.expr (.tT .append (.var 2) (.cons (.bin .mod (.var 3) (.tm 256)) .nil))) .nil))) (.For tg vF body [] pos))
  (hp:az H p=some (xs.map .int)) (hq:H[q]?=some (.uv [])) (uu:p≠q) (hr:∀x∈xs,0<=x/\x<65536) (hz:2*xs.length<=al)
  (k:∀B' tB U' h' t' v,B.StaysIn B'->Pre μ tB->FS true c.prog c.w U0 env vis [.ref p,d,.ref q,v] B' tB (H.set q (.uv (cO xs))) U' h'->Q .next {s with heap:=h',toks:=t'}):
  ai (CG c.prog c.w) A (EW (.For tg vF body [] pos) env) Q s:=by
 have hh:A.handled=none:=by
  rcases T.u3 with⟨_,h⟩ |⟨h,_⟩
  ·exact h
  ·rw[vU] at h;cases h
 have hx:cZ true tg=some (cE true tg):=ts.2.1;have hl:([3]:List Nat).length=(cE true tg).length:=ts.2.2.1;have yb:fK vis nk [3] (cE true tg)=true:=ts.2.2.2.1;have ti:TE vis nk (.var 0) vF:=ts.2.2.2.2.1;have tb:vE vis nk (.cons (.expr (.tT .append (.var 2) (.cons (.bin .fdiv (.var 3) (.tm 256)) .nil))) (.cons (.expr (.tT .append (.var 2) (.cons (.bin .mod (.var 3) (.tm 256)) .nil))) .nil)) body:=ts.2.2.2.2.2;clear ts;(revert hx hl yb;refine gn (cE true tg) λxs' hx hl yb=>?_);have A8:∀i x,(i,x)∈[3].zip xs'->(i,x)∈vis/\i7 true env x:=λi x hm=>⟨(je yb hm).1,T.slot (je yb hm).2⟩;refine aeV ((cG K.CO K.NO K.LR K.ZR ti U).v A env _ 4 B μ H s _ bH (T.es F) (cL F G) ?_) (λx=>rL ti env x);rw[show(c.tF U).Γ=c.Γ from rfl,ka (v:=.ref p) rfl (by simp) (by simp)];intro B' tB h' t' yh hB tQ I w;have F':FS true c.prog c.w U0 env vis [.ref p,d,.ref q,.undef] B' tB H U h':=F.step hB tQ I;refine oM (c:=c.tF U) (s:={s with heap:=h',toks:=t'}) I w (ach hp 0) λo xI=>?_;have nB:=F'.inv.xq;have nM:=F'.inv.nextM;have nU:=F'.inv.wF;dsimp only at xI nB nM nU⊢;(revert xI nB nM nU;refine cX h'.objs.size λit hit xI nB nM nU=>?_);obtain⟨oI,eI,fI⟩:=(xI.obj);have xz:∀p,¬U0 it p:=λp hu=>nU p (F'.keep _ _ hu);have zM:it≠env.locals:=by obtain⟨o,es,ep,g1,_⟩:=F'.own.dict;exact λq=>nU o (q▸g1)
 have v4:∀x b,env.cells.lookup x=some b->env.kindOf x=some .cell->b≠it:=λx b e1 e2=>by obtain⟨o,v,g4,_⟩:=F'.own.cell rfl x b e1 e2;exact λq=>nU o (q▸g4)
 have uA:∀{h:CL}{o:Obj},h.get? it=some o->d6 o->∀o,h.get? it=some o->∀v,o.data≠.cell v:=λe ⟨vs,f⟩ o e2 v q=>by rw[e] at e2;cases e2;rw[f] at q;cases q
 have F0:FS true c.prog c.w U0 env vis [.ref p,d,.ref q,.undef] B' tB H (U.put it oI) (h'.push o):=(F'.step (λZ Z e=>e) (Pre.refl _) (F'.inv.push o)).wH zM (uA eI fI) nB nM xz (λZ Z Z e=>e) eI;have atu:H.set q (.uv (cO (xs.take 0)))=H:=by
  obtain⟨h1,h2⟩:=List.getElem?_eq_some_iff.mp hq;rw[Em];exact Ie λi=>by
   rw[List.getElem?_set]
   split
   ·rename_i e;subst e;rw[hq];rfl
   ·rfl
 have hgl:∀b,az (H.set q (.uv b)) p=some (xs.map .int):=λb=>by unfold az at hp⊢;rw[DN (Du uu)];exact hp
 have hql:q<H.length:=(List.getElem?_eq_some_iff.mp hq).1;refine ae1 (Q:=Q) (λm tz=>∃j v xQ xw yM oI,m+j=xs.length+1/\FS true c.prog c.w U0 env vis [.ref p,d,.ref q,v] xQ xw (H.set q (.uv (cO (xs.take j)))) yM tz.heap/\ur c.prog c.w xQ/\wz xQ xw (.ref p) j tz.heap it/\yM it oI/\d6 oI/\
   B.StaysIn xQ/\Pre μ xw/\∃tC ux,tz={s with heap:=tC,toks:=ux}) ?_ (xs.length+1)
  (dU 0 (.undef) B' tB _ oI (dy rfl (by rw[atu];exact F0) (G.mono hB) xI (tD.t7 _ _ _) fI (aij hB tQ _ _ rfl)))
 intro m tz N K1 hN k0 k1 yc;(revert yc;refine r_eeeeee λj v xQ xw yM oI=>r_aaaaaa λhm F G xI wI fI=>r_aaee λarS arC tC ux zq16=>?_;subst zq16);obtain⟨nB,nM,_⟩:=F.inv.us it oI wI;have eI:=F.inv.at_ wI (.inl fI);refine mx (c:=c.tF yM) hh F.inv xI (ach (hgl _) j) (λv' cv h2 t2 e hv x' hs=>?_) λh2 e hs=>?_
 ·(obtain⟨x,ex,zq2⟩:=Es.mp e;clear e;subst zq2);refine k1 _ _ ?_;obtain⟨r0,r1⟩:=hr x (DZ ex);have hj:j<xs.length:=(List.getElem?_eq_some_iff.mp ex).1;obtain⟨zo,Ak,Ao⟩:=(x'.obj);have F1:=(F.wH zM (uA eI fI) nB nM xz hs Ak).up (tD.t7 _ _ _);have T':=T.put (o:=zo) xz zM v4;refine rq (s:={s with heap:=h2,toks:=t2}) x' ?_;refine uG (c:=c) (s:={s with heap:=h2,toks:=t2}) (ρ':= [.ref p,d,.ref q,.int x]) true (.inr hh) hx hl rfl hv F1 T'.off uz T'.kind A8 λh3 U3 t3 F3=>?_;obtain⟨_,_,rfl,AG,tbr⟩:=(tb.c);obtain⟨_,_,rfl,tb2,tb3⟩:=(tbr.c);obtain rfl:=tb3.n;obtain⟨_,_,rfl,_,te1⟩:=(AG.e);obtain⟨_,_,rfl,_,te2⟩:=(tb2.e);obtain⟨_,_,_,_,rfl,asA⟩:=(te1.m);obtain⟨_,_,rfl,_,zL⟩:=(asA.c);clear asA AG;obtain rfl:=zL.n;obtain⟨_,_,_,_,rfl,asB⟩:=(te2.m);obtain⟨_,_,rfl,_,zL⟩:=(asB.c);clear asB tb2 tbr tb k1;obtain rfl:=zL.n;have hlen:(cO (xs.take j)).length=2*j:=by rw[aj7,Dn];exact CN (2*·) (EJ (CU hj))
  have ata:(H.set q (.uv (cO (xs.take j))))[q]?=some (.uv (cO (xs.take j))):=by rw[Fa hql]
  refine hZ (aac (c:=c) (s:={s with heap:=h3,toks:=t3}) K T' F3 G te1 (ka rfl (by simp) (by simp)) (i:=x.fdiv 256) ?_ ata ?_ ?_ (am9 hz hm hj hlen) λB4 zc h4 t4 wW vB F4=>?_)
  ·rw[E1.bin];rw[ka (v:=.int x) rfl (by simp) (by simp)];rfl
  ·rw[GW _ (by decide)];exact Kw r0 (by decide)
  ·rw[GW _ (by decide)];exact Int.ediv_lt_of_lt_mul (by decide) (KB r1 (by decide))
  rw[Ip] at F4;refine hZ (aac (c:=c) (s:={s with heap:=h4,toks:=t4}) K T' F4 (G.mono wW) te2 (ka rfl (by simp) (by simp)) (i:=x.fmod 256) ?_ (Fa hql) ?_ ?_ (by rw[List.length_append];simp;exact ana hz hm hj hlen) λB5 zd h5 t5 xx vJ F5=>?_)
  ·rw[E1.bin];rw[ka (v:=.int x) rfl (by simp) (by simp)];rfl
  ·rw[GX _ (by decide)];exact anb
  ·rw[GX _ (by decide)];exact Kx _ (by decide)
  rw[Ip,List.append_assoc] at F5;have w5:=F5.keep _ _ (tD.t7 U0 it zo);have e5:=F5.inv.at_ w5 (.inl Ao);refine c8 (Fk ⟨rfl,hN (m-1) _ (anc hm hj) (nK (j+1) (.int x) B5 (ce zd U3 zo (ane hm hj) ?_ ((G.mono wW).mono xx) (aih (x'.at_ (λo e=>by rw[Ak] at e;cases e;exact e5) (λZ Z e=>xx _ _ (wW _ _ e)) (vB.trans vJ)) w5 Ao (λZ Z e=>xx _ _ (wW _ _ (arS _ _ e))) (arC.trans (vB.trans vJ)) _ (i_e _ rfl))))⟩);rw[aj8 ex];exact F5.weak λb p hu=>tD.tU (λq=>xz p (q▸hu)) hu
 ·have hj:xs.length<=j:=by simpa using(Option.map_eq_none_iff.mp e)
  have:=k xQ xw _ h2 ux v arS arC (by
   have:=F.arR zM (uA eI fI) nB nM xz hs
   rwa [EH hj] at this)
  exact k0 _ this
end
variable {c:tN}{a:CF}{n m i:Nat}{e:CJ}{b:List UInt8}{r:Bool}{f:CE}
section
theorem qw{np:Nat}{ps:List Str}{Q:Flow->CI->Prop}(D:vn B a fd body ps)(F:vS np nv vis ps fd.scope.names)
  (I:Inv c.prog c.w B c.U μ H s.heap) (wO:B.NoLimit) (hv:tK B μ vs tA) (hl:vs.length=np) (xi:A.depth<recursionLimit)
  (h:∀tC ux,Off true c.U (C0 fd s.heap.objs.size a)->FS true c.prog c.w c.U (C0 fd s.heap.objs.size a) vis (vs++CR (nv-np) .undef) B μ H (c.U.call tC s.heap.objs.size (cellsFrom (s.heap.objs.size+1) fd.scope.names [])) tC->
   ai (CG c.prog c.w) (A.deeper (C0 fd s.heap.objs.size a)) (DC body (C0 fd s.heap.objs.size a)) (λf s'=>Q (.ret (match f with | .ret v=>v |_=>.none)) s') {s with heap:=tC,toks:=ux})
  (uE:fd.closure=[]):dn (CG c.prog c.w) A (.call (.ref a) ⟨tA,[]⟩) Q s:=by
 obtain⟨o,ho,hd⟩:=(D.ob);have v4:ps.length=tA.length:=by rw[hv.length,hl,F.len]
 refine agq xi (I.base _ _ ho) hd (wO.keeps λb o e=>I.base b o e) (D.code.keeps λb o e=>I.base b o e) D.body (lF D.args D.dflt F.nodup v4) uE (λx hx=>?_) (λtz X=>?_) D.co D.gen D.kind
 ·obtain⟨n,v⟩:=x;obtain⟨i,hi⟩:=Eg.mp (FH hx).1;rcases(F.kind i n (F.par i n hi)).2 with q |q
  ·exact .inl q
  ·exact .inr ⟨q,m8 (.inr (mem_of_lookup q))⟩
 ·(obtain⟨tC,ux,zq2,h1,h2⟩:=abJ (a:=a) I F D.kind hv hl X;clear X;subst zq2);exact h tC ux h1 h2
theorem pr{ps:PS}{rest:List Stmt}{Q:Flow->CI->Prop}(K:t8 c n/\t8 c.tP n)(uz:bQ vis=true)(ts:TS vis nk ps st)(T:FE c U0 A env nk n)(F:FS true c.prog c.w U0 env vis ρ B μ H U s.heap)(G:ur c.prog c.w B)
  (e:exec c.Γ ps ρ H=.ok (.next ρ') H') (k:∀B' tB U' h' t',B.StaysIn B'->Pre μ tB->ur c.prog c.w B'->FS true c.prog c.w U0 env vis ρ' B' tB H' U' h'->ai (CG c.prog c.w) A (DC rest env) Q {s with heap:=h',toks:=t'}):
  ai (CG c.prog c.w) A (DC (st::rest) env) Q s:=by
 refine hZ (c8 (aeg K.1 K.2 uz ts U0 A env ρ B μ H U s _ bH T F G ?_));rw[e];exact λB' tB U' h' t' hB tQ F'=>k B' tB U' h' t' hB tQ (G.mono hB) F'
theorem N10{p:Nat}{d:Int}{xs:List Int}(hS:gA A c.U c.fs)(hd:A.depth+(n+1)<480)(hu:A.units+60*(n+1)<=8950)(hh:A.handled=none)
  (I:Inv c.prog c.w B c.U μ H s.heap) (G:ur c.prog c.w B) (hv:tK B μ [.ref p,.int d] tA) (hp:az H p=some (xs.map .int)) (hd8:8<d) (hr:∀x∈xs,0<=x/\x<65536) (hz:2*xs.length<=al)
  (P:tj c s B μ VR (.ok (.bytes (cO xs)) (H++[.uv (cO xs)])) Q bH):ai (CG c.prog c.w) A (call (.ref (bK 10)) tA) Q s:=by
 refine o_eeeeaa (G.xe 10 2 4 mX rfl (by decide) (by decide) (by decide)) λfd body ps vis D uE=>r_a λF wG=>?_;refine kZ (qw (c:=c) D F I G.nolimit hv rfl (by show A.depth<1000;exact CT (Nat.lt_of_le_of_lt (Nat.le_add_right ..) hd) (by decide)) (λtC ux uN FS=>?_) uE);have K:=mP n (c.inner (C0 fd s.heap.objs.size (bK 10)) n) rfl;have T:=lI (c:=c) (n:=n) D F hS hd hu hh uN;(revert uN FS K T;refine gn (C0 fd s.heap.objs.size (bK 10)) λenv uN FS K T=>?_);refine re λQF kQ=>?_;obtain⟨_,_,rfl,t1,wG⟩:=wG.c;obtain⟨_,_,rfl,t2,wG⟩:=wG.c;obtain⟨_,_,rfl,t3,wG⟩:=wG.c;obtain⟨_,_,rfl,t4,wG⟩:=wG.c;obtain rfl:=wG.n;have e1:exec ⟨run n,100000,false⟩ (.ifs (.cmp (.var 1) .le (.tm 8)) (.cons (.ret (.bi .bytes (.cons (.var 0) .nil))) .nil) .nil) [.ref p,.int d,.undef,.undef] H=.ok (.next [.ref p,.int d,.undef,.undef]) H:=by
  have hle:decide (d<=8)=false:=DD (IY.mpr hd8);show bN .bad (.bool (decide (d<=8))) (λr=>if r then _ else _)=_
  rw[hle];rfl
 refine pr (c:=c.inner env n) K F.ok t1 T FS G e1 λB1 vj U1 h1 k1 wV wo G1 F1=>?_;obtain⟨x,v,px,pos,rfl,yb,tv⟩:=(t2.a);obtain⟨_,_,_,rfl,hg,tn⟩:=tv.b (by decide);clear t2;obtain rfl:=tn.n;obtain⟨m1,m2⟩:=je yb (show(2,x)∈[2].zip [x] from G9 _);refine hZ ?_;rw[MG _ _ _ _ _ (jD tv rfl _ _ _)];have S1:=T.es F1;have D1:=cL F1 G1;refine bv (hG (bv ?_));refine o_eeaaaa G1.ns λg b n1 n2 Z Z=>r_aaa λZ Z n7 Z=>?_;refine lk rfl (eg (c:=(c.inner env n).tF U1) S1 D1 hg (ax g b n1 n2 (.inr (n7 .bytearray))) ?_);refine mz (c:=(c.inner env n).tF U1) .nil S1 D1 ?_;rw[E2.nil];intro B2 vN h2 k2 ash u5 uk I2 vs2;have e:=vs2.n;clear vs2;subst e;refine⟨.inr (.inl ⟨_,rfl⟩),ae5 λh3 Ca he3=>?_⟩;have F2:=F1.step u5 uk I2;have I3:=F2.inv.xC (ao:=.uv []) Ca (Nat.le_refl _) he3 ⟨rfl,Ec _⟩ (by rintro⟨vs,q⟩;cases q);have F3:=F2.step (λZ Z e=>e) (Pre.snoc _ _) I3;refine bg (DT (bg (IC (jL (c:=c.inner env n) F3 T.off F.ok T.kind m1 (T.slot m2) (VR.xv (.ref H.length _ (kt F2.inv.len))) λh4 U4 k4 F4 Z=>c9 ?_))));have G4:=(G1.mono u5);refine hZ ?_;obtain⟨_,_,_,_,rfl⟩:=(t3.f);have yy:p<H.length:=by
  unfold az at hp
  cases q:H[p]? with
  |none=>rw[q] at hp;cases hp
  |some o=>exact(List.getElem?_eq_some_iff.mp q).1
 refine ae4 (c:=c.inner env n) (H:=H++[.uv []]) (p:=p) (q:=H.length) (d:=.int d) (xs:=xs) K.1 T F4 G4 F.ok rfl t3 ?_ ?_ (CV yy) hr hz λB5 zd U5 h5 k5 v5 xx vJ F5=>?_
 ·unfold az at hp⊢;rw[Ee yy];exact hp
 ·simp
 rw[show(H++[AO.uv []]).set H.length (.uv (cO xs))=H++[.uv (cO xs)] by simp] at F5;have G5:=G4.mono xx;obtain⟨_,_,rfl,tv⟩:=(t4.r);obtain⟨_,_,_,rfl,hg,tn⟩:=tv.b (by decide);obtain⟨_,_,rfl,ta,tn⟩:=tn.c;clear tv t4 D wG;obtain rfl:=tn.n;have S5:=T.es F5;have D5:=cL F5 G5;refine o_eeaaaa G5.ns λg b n1 n2 Z Z=>r_aaa λZ Z n7 Z=>?_;refine hZ (pq (lk rfl (eg (c:=(c.inner env n).tF U5) S5 D5 hg (ax g b n1 n2 (.inr (n7 .bytes))) ?_)));refine mz (c:=(c.inner env n).tF U5) (.cons (cG K.1.CO K.1.NO K.1.LR K.1.ZR ta U5) .nil) S5 D5 ?_;dsimp only[E2.cons,E2.nil];rw[ka (v:=.ref H.length) rfl (by simp) (by simp)];intro B6 Bh h6 k6 atU Ar yC I6 vs6;refine⟨.inr (.inl ⟨_,rfl⟩),?_⟩;refine o_ea vs6.o1 λcv e v1=>o_ea v1.r λa e' ha=>?_;clear vs6 v1;subst e';subst e;obtain⟨g1,g2⟩:=I6.uv (b:=cO xs) ha (by simp);refine c8 (afD g1 g2 λt=>kQ _ _ (ae _ rfl ?_));exact P B6 Bh h6 (k6+1) _ (λZ Z e=>Ar _ _ (xx _ _ (u5 _ _ (wV _ _ e)))) (wo.trans (uk.trans ((Pre.snoc _ _).trans (vJ.trans yC)))) (I6.less F5.keep) (.bytes _ _ g2)
end
noncomputable def eS:Nat->tW->tW
 |k+1,.cons s ss=>.cons s (eS k ss)
 |_,_=>.nil
noncomputable def fY:Nat->tW->tW
 |k+1,.cons _ ss=>fY k ss
 |_,ss=>ss
noncomputable def nT:PE:=.tT .join (.tu [10]) (.cons (.var 3) .nil)
noncomputable def mR:ui:=.cons (.call 8 (.cons (.attr (.var 0) 5) .nil)) (.cons (.attr (.var 0) 4) .nil)
theorem TE.bn{o:zt}{a b:PE}{v:CJ}(h:TE vis nk (.bin o a b) v):∃l r pos,v=.BinOp l (mr o) r pos/\TE vis nk a l/\TE vis nk b r:=(bZ _ _ _ h.1 h.2.1 h.2.2)
structure W18(n:Nat)(ug:AV)(H:AH)(bs:List UInt8)(H':AH):Prop where
 it:∃ρ H1 hd p d xs H2,CK ⟨run n,100000,false⟩ (eS 7 iG) ([ug]++CR 5 .undef) H=.ok (.next ρ) H1/\ev ⟨run n,100000,false⟩ nT 4 ρ H1=.ok (.bytes hd) H1/\
  uj ⟨run n,100000,false⟩ mR 4 ρ H1=.ok [.ref p,.int d] H2/\az H2 p=some (xs.map .int)/\8<d/\(∀x∈xs,0<=x/\x<65536)/\2*xs.length<=al/\bs=hd++cO xs/\bs.length<=al/\H'=H2++[.uv (cO xs)]
section
theorem py{U0:tD}{env:Env}{vis:aN}{nk:aP}{Q:Flow->CI->Prop}{rest:List Stmt}(K:t8 c n/\t8 c.tP n)(uz:bQ vis=true)(T:FE c U0 A env nk n):
  ∀{ss:tW}{wA:List Stmt}{ρ ρ':aB}{B:CL}{μ:List CF}{H H':AH}{U:tD}{s:CI},vE vis nk ss wA->FS true c.prog c.w U0 env vis ρ B μ H U s.heap->ur c.prog c.w B->
   CK c.Γ ss ρ H=.ok (.next ρ') H'->(∀B' tB U' h' t',B.StaysIn B'->Pre μ tB->ur c.prog c.w B'->FS true c.prog c.w U0 env vis ρ' B' tB H' U' h'->ai (CG c.prog c.w) A (DC rest env) Q {s with heap:=h',toks:=t'})->
   ai (CG c.prog c.w) A (DC (wA++rest) env) Q s
 | .nil,wA,ρ,ρ',B,μ,H,H',U,s,ts,F,G,e,k=>by obtain rfl:=ts.n;cases E6.nil.symm.trans e;exact k B μ U s.heap s.toks (λZ Z e=>e) (Pre.refl _) G F
 | .cons p ss,wA,ρ,ρ',B,μ,H,H',U,s,ts,F,G,e,k=>by
  obtain⟨_,_,rfl,t1,ts⟩:=ts.c;rw[E6.cons] at e
  cases q:exec c.Γ p ρ H with
  |ok fl H1=>
   rw[q] at e
   cases fl with
   |next vk=>refine pr K uz t1 T F G q λB1 vj U1 h1 k1 wV wo G1 F1=>?_;exact py K uz T (s:={s with heap:=h1,toks:=k1}) ts F1 G1 e λB' tB U' h' t' b d g f=>k B' tB U' h' t' (λZ Z e=>b _ _ (wV _ _ e)) (wo.trans d) g f
   |ret v=>cases e
  |exc i H1=>rw[q] at e;cases e
  |bad=>rw[q] at e;cases e
theorem vE.split{vis:aN}{nk:aP}:∀(k:Nat){ss:tW}{wA:List Stmt},vE vis nk ss wA->∃a b,wA=a++b/\vE vis nk (eS k ss) a/\vE vis nk (fY k ss) b
 |0,ss,wA,h=>(ax [] wA rfl (by clear h;cases ss<;>rfl) (by cases ss<;>exact h))
 |k+1,.nil,wA,h=>(ax [] wA rfl rfl h)
 |k+1,.cons s ss,wA,h=>by obtain⟨_,_,rfl,t1,ts⟩:=(h.c);(obtain⟨a,b,zq2,h1,h2⟩:=vE.split k ts;clear ts h;subst zq2);exact(ax (_::a) b rfl ⟨rfl,t1,h1⟩ h2)
theorem N18{ug:AV}{bs:List UInt8}(hS:gA A c.U c.fs)(hd:A.depth+(n+1+1)<480)(hu:A.units+60*(n+1+1)<=8950)(hh:A.handled=none)
  (I:Inv c.prog c.w B c.U μ H s.heap) (G:ur c.prog c.w B) (hv:tK B μ [ug] tA) (W:W18 (n+1) ug H bs H')
  (P:tj c s B μ VR (.ok (.bytes bs) H') Q bH):ai (CG c.prog c.w) A (call (.ref (bK 18)) tA) Q s:=by
 refine o_eeeeee W.it λρ H1 zE p d xs=>r_eaaaaa λH2 w1 w2 w3 w4 w5=>r_aaaa λw6 w7 w8 w9 Af=>?_;refine o_eeeeaa (G.xe 18 1 6 iG rfl (by decide) (by decide) (by decide)) λfd body ps vis D uE=>r_a λF wG=>?_;refine kZ (qw (c:=c) D F I G.nolimit hv rfl (by show A.depth<1000;exact CT (Nat.lt_of_le_of_lt (Nat.le_add_right ..) hd) (by decide)) (λtC ux uN FS=>?_) uE);have K:=mP (n+1) (c.inner (C0 fd s.heap.objs.size (bK 18)) (n+1)) rfl;have T:=lI (c:=c) (n:=n+1) D F hS hd hu hh uN;(revert uN FS K T;refine gn (C0 fd s.heap.objs.size (bK 18)) λenv uN FS K T=>?_);refine re λQF kQ=>?_;obtain⟨_,_,rfl,tp,ts⟩:=wG.split 7;refine py K F.ok T (s:={s with heap:=tC,toks:=ux}) tp FS G w1 λB1 vj U1 h1 k1 wV wo G1 F1=>?_;obtain⟨_,_,rfl,t1,ts⟩:=ts.c;obtain rfl:=ts.n;obtain⟨_,_,rfl,tv⟩:=(t1.r);have S1:=T.es F1;have D1:=cL F1 G1;obtain⟨_,_,_,rfl,tl,tr⟩:=(tv.bn);obtain⟨_,_,_,rfl,hc,hg,ta⟩:=(tr.cl);obtain⟨_,_,rfl,Ad,ta⟩:=ta.c;obtain⟨_,_,rfl,AF,ta⟩:=ta.c;clear tr tv t1 ts D wG;obtain rfl:=ta.n;refine hZ (pq (aeZ ((cG K.1.CO K.1.NO K.1.LR K.1.ZR tl U1).v (A.deeper env) env ρ 4 B1 vj H1 _ _ bH S1 D1 ?_)));show tj _ _ _ _ _ (ev ⟨run (n+1),100000,false⟩ nT 4 ρ H1) _ _;rw[w2];intro B2 vN h2 k2 ca u5 uk I2 va;have D2:u6 ((c.inner env (n+1)).tF U1) env vis ρ B2 vN H1 h2:=D1.step u5 uk I2;obtain⟨g,b,n1,n2,_,n4,_⟩:=(D2.uD.ns);refine lk rfl (eg (c:=(c.inner env (n+1)).tF U1) S1 D2 hg (ax g b n1 n2 (.inl (n4 10 _ _ _ rfl (by decide)))) ?_);obtain⟨ob,BB,g1,g2⟩:=D2.uD.fns 10 _ _ _ rfl (by decide) (by decide) (by decide);refine mz (c:=(c.inner env (n+1)).tF U1) (.cons (cG K.1.CO K.1.NO K.1.LR K.1.ZR Ad U1) (.cons (cG K.1.CO K.1.NO K.1.LR K.1.ZR AF U1) .nil)) S1 D2 ?_;show tj _ _ _ _ _ (uj ⟨run (n+1),100000,false⟩ mR 4 ρ H1) _ _;rw[w3];intro B3 za h3 k3 as7 vZ uY I3 v3;refine⟨.inr (.inr (.inl (bZ _ ob BB rfl (I3.base _ _ (vZ _ _ g1)) g2))),?_⟩;have hA:(A.deeper env).handled=none:=hh;refine N10 (c:=(c.inner env (n+1)).tF U1) (n:=n) S1.xO (by have:=S1.deep;exact this) (by have:=S1.units;exact Nat.le_trans (Nat.le_trans (Nat.le_add_right _ (10*4)) (It (show _+60<=8940+60 from this))) (by decide)) hA I3 (D2.uD.mono vZ) v3 w4 w5 w6 w7 ?_;intro B4 zc h4 k4 cb wW vB I4 vb;refine o_ea va.y λta e hsa=>o_ea vb.y λtb e' hsb=>?_;clear va vb;subst e e';subst w8;refine adV (c:=(c.inner env (n+1)).tF U1) (o:=.add) (H:=H2++[.uv (cO xs)]) (s:={s with heap:=h4,toks:=k4}) I4 (.bytes _ ta hsa) (.bytes _ tb hsb) ?_;show tj _ _ _ _ _ (jB _ _) _ _;unfold jB;rw[CM w9];intro B5 zd h5 k5 cv xx vJ I5 v5;clear W;subst Af;exact kQ _ _ (ae _ rfl (P B5 zd h5 k5 cv (λZ Z e=>xx _ _ (wW _ _ (vZ _ _ (u5 _ _ (wV _ _ e))))) (wo.trans (uk.trans (uY.trans (vB.trans vJ)))) (I5.less F1.keep) v5))
end
noncomputable abbrev sW:Str:="width"
noncomputable abbrev sH:Str:="height"
noncomputable abbrev sO:Str:="one"
noncomputable def fw:List (Str×NameKind):= [("height",.free),("width",.free),("Plane",.globalImplicit),("range",.globalImplicit)]
noncomputable def me:Arguments:=⟨[],[],none,[],[],none,[]⟩
noncomputable def qS:PS:=.assign (.tup [2,8,7]) (.tup (.cons (.attr (.var 1) 4) (.cons (.attr (.idx (.attr (.var 1) 5) (.tm 0)) 0) (.cons (.attr (.idx (.attr (.var 1) 5) (.tm 0)) 1) .nil))))
structure wZ(B:CL)(P:CF):Prop where
 ex:∃fd a1 rest ps vis xu u0 pos c,vn B (bK 30) fd (a1:: .FunctionDef "one" me u0 [] none [] xu none "one" pos::rest) ps/\fd.closure=[]/\vS 2 11 vis ps fd.scope.names/\TS vis fd.scope.names qS a1/\
  vE vis fd.scope.names (fY 2 iF) rest/\fd.code=.ref c/\CodeHd B c P/\(3,sO)∈vis/\fd.scope.names.lookup sO=some .local/\fd.scope.names.lookup sW=some .cell/\fd.scope.names.lookup sH=some .cell/\
  xu.names=fw/\xu.kind=.function/\xu.isGenerator=false/\xu.isCoroutine=false/\vE [(0,("width":Str)),(1,("height":Str))] fw ig u0
 blt:∃g,B.Ns Dm g/\B.BuiltinsAt g P
theorem wZ.mono(D:wZ B P)(h:B.StaysIn B'):wZ B' P:=by refine o_eeeeee D.ex λfd a1 rest ps vis xu=>r_eeeaaa λu0 pos c g1 g2 g3=>r_aaaa λg4 g5 g6 g7 g8=>?_;obtain⟨g,b1,b2⟩:=D.blt;exact⟨⟨fd,a1,rest,ps,vis,xu,u0,pos,c,g1.mono h,g2,g3,g4,g5,g6,g7.keeps h,g8⟩,g,b1.keeps h,b2.keeps h⟩
theorem agn{w h:CF}(hs:sc.names=fw)(hw:env.cells.lookup sW=some w)(hh:env.cells.lookup sH=some h):closureFor sc env=pure [(sW,w),(sH,h)]:=by unfold closureFor;rw[hs];unfold fw;simp -iota only[Hh,List.forIn_nil];dsimp only;unfold cellOf;rw[hh,hw];rfl
theorem rt{a:Str}{b z:α}{l:List (Str×α)}(e:((a,b)::l).lookup x=some z):(x=a/\z=b)\/l.lookup x=some z:=by
 rw[EG] at e
 cases q:x==a with
 |true=>rw[q] at e;exact .inl ⟨eq_of_beq q,(C6 e).symm⟩
 |false=>rw[q] at e;exact .inr e
theorem lk2{a b:Str}{w h z:CF}(e:[(a,w),(b,h)].lookup x=some z):(x=a/\z=w)\/(x=b/\z=h):=by
 rcases rt e with e |e
 ·exact .inl e
 ·exact .inr ((rt e).resolve_right nofun)
theorem anR{f:CF}{cells:List (Str×CF)}{w h:CF}(D:vn B f fd body [])(hn:fd.scope.names=fw)(hb:vE [(0,("width":Str)),(1,("height":Str))] fw ig body)(hc:fd.closure=[(sW,w),(sH,h)])
  (hw:cells.lookup sW=some w) (hh:cells.lookup sH=some h) (uu:w≠h):xa B f cells:=by
 have l1:∀x a,fd.closure.lookup x=some a->(x=sW/\a=w)\/(x=sH/\a=h):=λx a e=>by rw[hc] at e;exact lk2 e
 refine⟨fd,body,D,by rw[hn];exact hb,λx hx=>?_,λx a e=>?_,λx=>?_,λx hx=>?_,λx y a e1 e2=>?_⟩
 ·rw[hn] at hx;unfold fw at hx;simp only[CX,DK,DM] at hx;rcases hx with rfl |rfl |rfl |rfl<;>exact λq=>nomatch q
 ·clear hc uu;rcases l1 x a e with⟨rfl,rfl⟩ |⟨rfl,rfl⟩
  ·exact⟨hw,.inl rfl⟩
  ·exact⟨hh,.inr rfl⟩
 ·rw[hn];constructor
  ·intro e;unfold fw at e
   repeat (replace e:=rt e;rcases e with e |e;· first |exact .inl e.1 |exact .inr e.1 |cases e.2)
   cases e
  ·rintro(rfl |rfl)<;>rfl
 ·rw[hc];rcases hx with rfl |rfl
  ·exact⟨w,rfl⟩
  ·exact⟨h,rfl⟩
 ·clear hc;rcases l1 x a e1 with⟨rfl,rfl⟩ |⟨rfl,rfl⟩<;>rcases l1 y _ e2 with⟨rfl,q⟩ |⟨rfl,q⟩<;>first |rfl |exact CP q uu |exact CP q.symm uu
section
variable {Q:Flow->CI->Prop}{cc:CF}{xu:Scope}{u0:List Stmt}
theorem aoS(T:FE c U0 A env nk n)(F:FS true c.prog c.w U0 env vis ρ B μ H U s.heap)(hP:U0 P (tabObj #[]))(wm:env.code=.ref cc)(C:CodeHd B cc P)(blt:∃g,B.Ns Dm g/\B.BuiltinsAt g P)(ok:bQ vis=true)(h3:(3,sO)∈vis)
  (hO:nk.lookup sO=some .local) (hW:nk.lookup sW=some .cell) (hH:nk.lookup sH=some .cell) (n1:xu.names=fw) (n2:xu.kind=.function) (n3:xu.isGenerator=false) (n4:xu.isCoroutine=false) (tb:vE [(0,sW),(1,sH)] fw ig u0)
  (k:∀B' U' h' t' y6,B.StaysIn B'->FS true c.prog c.w (tD.put (λb p=>b≠P/\U0 b p) P (tabObj y6)) env vis (ρ.set 3 (.fn 41)) B' μ H U' h'->Q .next {s with heap:=h',toks:=t'}):
  CH (CG c.prog c.w) A (EW (.FunctionDef sO me u0 [] none [] xu none sO pos) env) Q E s:=by
 obtain⟨g,b1,b2⟩:=blt;obtain⟨w,hw⟩:=T.cls sW (.inl hW);obtain⟨hh,BX⟩:=T.cls sH (.inl hH);have hUP:=F.keep _ _ hP;have fP:d6 (tabObj #[]):=⟨_,rfl⟩;have eP:=F.inv.at_ hUP (.inl fP);obtain⟨nBP,nMP,_⟩:=F.inv.us _ _ hUP;have hwh:w≠hh:=λe=>by have:=F.own.apart rfl sW sH w hw (e▸BX);exact CP this (by decide)
 have hge:Dm≠P:=λe=>by obtain⟨o,es,ep,q,_⟩:=b1;rw[e,nBP] at q;cases q
 rw[exec_def,defaultsOf_eq];refine wpAny_bind (DT (wpAny_bind (DB ?_)));refine wpAny_bind (wpAny_pure (wpAny_bind (DB (wpAny_pure (DB (wpAny_bind (wpAny_pure ?_)))))));refine makeFunction_K (c:=cc) (P:=P) (ps:=#[]) (agn n1 hw BX) T.glob (b1.keeps F.inv.base) wm (C.keeps F.inv.base) eP trivial rfl hge (b2.keeps F.inv.base) λc' Br doc h' tk hx zC yT yZ BK=>?_
 have A7:DF P s.heap (h'.push (fnMade sO (qualnameIn env sO sO) me u0 xu [(sW,w),(sH,hh)] doc ((g "__name__").getD .none) c' Br)):=λb o hb e=>Dc _ (hx b o hb e)
 have uc:s.heap.objs.size<=h'.objs.size:=Nat.le_trans zC (CU yT);have asO:P≠env.locals:=λe=>T.off.loc _ (e▸hP)
 have Bu:=Dc (fnMade sO (qualnameIn env sO sO) me u0 xu [(sW,w),(sH,hh)] doc ((g "__name__").getD .none) c' Br) BK
 (revert BK Bu;refine gn ((#[]:Array CE)++#[Dr pos.line,Dr pos.col,.ref c']) λy6 BK Bu=>?_);have F1:=((F.weak (U0':=U0) (U0:=λb p=>b≠P/\U0 b p) λb p x=>x.2).wH (a:=P) asO (λo e v q=>by rw[eP] at e;cases e;cases q) nBP nMP (λp x=>x.1 rfl) A7 Bu).up (tD.t7 _ _ _);have f1:∀a,s.heap.objs.size<=a->a∉μ/\∀o,¬(U.put P (tabObj y6)) a o:=λa ha=>⟨λhm=>CY _ (Nat.lt_of_lt_of_le (F.inv.lt hm) ha),λo hu=>hu.elim (λz=>CY _ (Nat.lt_of_lt_of_le (F.inv.zO z.2) ha)) λz=>CY _ (Nat.lt_of_lt_of_le (Dh eP) (z.1▸ha))⟩;obtain⟨c0,oc,vs,tq,atc,Cg,r⟩:=yZ;cases atc;obtain⟨B1,st1,e1,I1⟩:=F1.inv.vQ (Dc _ Cg) (f1 _ zC).1 (f1 _ zC).2;obtain⟨B2,Cy,e2,I2⟩:=I1.vQ (a:=h'.objs.size) (DG _ rfl) (f1 _ uc).1 (f1 _ uc).2;have F2:=F1.step (λZ Z e=>Cy _ _ (st1 _ _ e)) (Pre.refl _) I2;have T':Off true (tD.put (λb p=>b≠P/\U0 b p) P (tabObj y6)) env:=⟨λp x=>x.elim (λz=>T.off.loc p z.2.2) λz=>asO z.1.symm,λq x a p e1 e2 z=>z.elim (λy=>T.off.cell q x a p e1 e2 y.2.2) λy=>T.off.cell q x a _ e1 e2 (y.1▸hP)⟩
 have D:vn B2 h'.objs.size (fnX sO (qualnameIn env sO sO) me u0 xu [(sW,w),(sH,hh)] .none .none doc ((g "__name__").getD .none) none (.ref c') Br) u0 []:=⟨(ae _ e2 rfl),rfl,rfl,rfl,rfl,rfl,n2,n3,n4,(ef c' oc vs tq rfl (Cy _ _ e1) r)⟩
 have V:wh env sO B2 μ (.fn 41) (.ref h'.objs.size):=⟨(aI _ rfl (anR D n1 tb rfl hw BX hwh) (λx hx=>by rw[T.kinds];rcases hx with rfl |rfl<;>assumption)),by rw[T.kinds];exact hO⟩
 refine wpAny_bind (DT (wpAny_bind (IC (jL (c:=c) F2 T' ok T.kind h3 (T.slot (.inl hO)) V λh2 U2 t2 F3 Z=>wpAny_pure ?_))));exact k B2 U2 h2 t2 y6 (λZ Z e=>Cy _ _ (st1 _ _ e)) F3
end
theorem afF{r:R Fl}{b:Bool}(h:lD r=.ok (.bool b) H'):r=.ok (.ret (.bool b)) H':=by
 cases r with
 |ok fl H=>
  cases fl with
  |next ρ=>cases h
  |ret v=>cases h;rfl
 |exc k H=>cases h
 |bad=>cases h
theorem abr{p:PS}(h:CK Γ (.cons p ss) ρ H=.ok (.ret v) H'):(∃ρ' H1,exec Γ p ρ H=.ok (.next ρ') H1/\CK Γ ss ρ' H1=.ok (.ret v) H')\/exec Γ p ρ H=.ok (.ret v) H':=by
 rw[E6.cons] at h
 cases q:exec Γ p ρ H with
 |ok fl H=>
  rw[q] at h
  cases fl with
  |next ρ'=>exact .inl (bR _ _ rfl h)
  |ret v=>clear q;cases h;exact .inr rfl
 |exc k H=>rw[q] at h;cases h
 |bad=>rw[q] at h;cases h
section
theorem N30(hS:gA A c.U c.fs)(hd:A.depth+(n+1)<480)(hu:A.units+60*(n+1)<=8950)(hh:A.handled=none)(I:Inv c.prog c.w B c.U μ H s.heap)(G:ur c.prog c.w B)(X:wZ B P)(hP:c.U P (tabObj #[]))
  (hv:tK B μ vs tA) (hl:vs.length=2) (hr:run (n+1) 30 vs H=.ok (.bool true) H') (k:∀h' t',B.StaysIn h'->(∃ps,h'.get? P=some (tabObj ps))->Q (.bool true) {s with heap:=h',toks:=t'}):CH (CG c.prog c.w) A (call (.ref (bK 30)) tA) Q E s:=by
 refine o_eeeeee X.ex λfd a1 rest ps vis xu=>r_eeeaaa λu0 pos cc D uE F=>r_aaaaaa λt1 tr wm C v3 hO=>r_aaaaaa λhW hH n1 n2 n3 n4 tb=>?_;rw[su (k:=30) rfl hl] at hr;replace hr:=afF hr;rcases abr hr with⟨vk,H1,e1,hr⟩ |e1
 rotate_left
 ·exfalso;change((ev ⟨run n,100000,false⟩ _ 4 _ H).bind _)=_ at e1;revert e1
  cases ev ⟨run n,100000,false⟩ (.tup (.cons (.attr (.var 1) 4) (.cons (.attr (.idx (.attr (.var 1) 5) (.tm 0)) 0) (.cons (.attr (.idx (.attr (.var 1) 5) (.tm 0)) 1) .nil)))) 4 (vs++CR (11-2) .undef) H with
  |ok v H1=>
   intro e1;revert e1;show(match bz H1 [2,8,7] false v (vs++CR (11-2) AV.undef) with
    |some ρ=>R.ok (Fl.next ρ) H1
    |none=>R.bad)=_->_
   cases bz H1 [2,8,7] false v (vs++CR (11-2) AV.undef)<;>exact nofun
  |exc=>intro e1;cases e1
  |bad=>intro e1;cases e1
 rcases abr hr with⟨Bi,H2,e2,hr⟩ |e2
 rotate_left
 ·cases e2
 cases e2;refine aaX (E:=E) D F I G.nolimit hv hl (by show A.depth<1000;exact CT (Nat.lt_of_le_of_lt (Nat.le_add_right ..) hd) (by decide)) (λtC ux uN FS=>?_) uE;have xE:(C0 fd s.heap.objs.size (bK 30)).code=.ref cc:=wm;have K:=mP n (c.inner (C0 fd s.heap.objs.size (bK 30)) n) rfl;have T:=lI (c:=c) (n:=n) D F hS hd hu hh uN;(revert uN FS K T xE;refine gn (C0 fd s.heap.objs.size (bK 30)) λenv uN FS xE K T=>?_);refine Fy (aeg K.1 K.2 F.ok t1 c.U (A.deeper env) env _ B μ H _ {s with heap:=tC,toks:=ux} _ _ T FS G ?_);rw[show exec (c.inner env n).Γ qS _ H=_ from e1];intro B1 vj U1 h1 k1 wV wo F1;refine Fy (aoS (c:=c.inner env n) (s:={s with heap:=h1,toks:=k1}) T F1 hP xE (C.keeps wV) (o_ea X.blt λg b1 b2=>(ae g (b1.keeps wV) (b2.keeps wV))) F.ok v3 hO hW hH n1 n2 n3 n4 tb λB2 U2 h2 k2 y6 u5 F2=>?_);have T':FE (c.inner env n) (tD.put (λb p=>b≠P/\c.U b p) P (tabObj y6)) (A.deeper env) env fd.scope.names n:={T with
  top:=by
   obtain⟨yH,q1,q2,q3⟩:=T.top;refine(aI yH q1 q2 (λe he=>?_));refine o_aeeaa (q3 e he) λq4 L o q5 q6 q7=>?_;refine(jw q4 L o q5 (.inl ⟨λq=>q7 ?_,λq=>q7 ?_,q6⟩) q7)<;>
   (clear X k C F2;subst q;refine o_aaea (I.us _ _ hP) λZ Z sl g1 Z=>?_;refine o_aaea (I.us _ _ q6) λZ Z Cx g2 Z=>?_;rw[g1] at g2;exact .inl ⟨#[],(CN (λx=>(x.map JC)) g2 |> λz=>(C6 z).symm)⟩)
  u3:=.inl ⟨rfl,hh⟩
  off:=⟨λp x=>x.elim (λz=>T.off.loc p z.2.2) λz=>T.off.loc _ (z.1▸hP),λq x a p e1 e2 z=>z.elim (λy=>T.off.cell q x a p e1 e2 y.2.2) λy=>T.off.cell q x a _ e1 e2 (y.1▸hP)⟩}
 refine sF K.1 K.2 F.ok tr _ (A.deeper env) env _ B2 vj H1 U2 {s with heap:=h2,toks:=k2} _ _ T' F2 ((G.mono wV).mono u5) ?_;rw[show CK (c.inner env n).Γ (fY 2 iF) _ H1=_ from hr];intro B3 za U3 h3 k3 cv ρ3 vZ uY F3 v;have e:=v.b;clear v;subst e;exact k _ _ (λZ Z e=>F3.inv.base _ _ (vZ _ _ (u5 _ _ (wV _ _ e)))) ⟨y6,F3.inv.at_ (F3.keep _ _ (tD.t7 _ _ _)) (.inl ⟨_,rfl⟩)⟩
end
noncomputable def aex:PE:=.not (.call 4 (.cons (.call 17 (.cons (.var 7) .nil)) (.cons (.var 3) .nil)))
noncomputable def nq:PS:=.for [8] true (.bi .range (.cons (.tm 10) .nil)) (.cons (.assign (.var 9) (.vd (.cmp (.var 8) .gt (.tm 1)) (.call 20 (.cons (.var 1) (.cons (.bi .len (.cons (.var 7) .nil)) .nil))) (.var 8))) (.cons (.ifs (.cmp (.call 26 (.cons (.slice (.var 7) .nil (.cons (.var 9) .nil) .nil) .nil)) .ne (.call 27 (.cons (.var 6) (.cons (.var 9) .nil)))) (.cons (.ret (.un false)) .nil) .nil) .nil))
noncomputable def kX:PE:=.call 28 (.cons (.var 1) (.cons (.var 4) (.cons (.var 3) .nil)))
noncomputable def jU:ui:=.cons (.var 1) (.cons (.var 3) .nil)
def Wr(n:Nat)(ug:AV)(H:AH)(bs:List UInt8)(H':AH):Prop:=run n 18 [ug] H=.ok (.bytes bs) H'\/∃m,n=m+1+1/\W18 (m+1) ug H bs H'
structure xP(B:CL):Prop where
 ex:∃fd a zr args ps vis np cp bp rp,vn B (bK 31) fd (a++[.Return (some (.BoolOp .And [zr,.Call (.Name (cW 30) np) args [] cp] bp)) rp]) ps/\fd.closure=[]/\vS 1 10 vis ps fd.scope.names/\vE vis fd.scope.names (eS 8 lx) a/\
  TE vis fd.scope.names kX zr/\vg vis fd.scope.names jU args/\glob? fd.scope.names (cW 30)=true
inductive AM(n:Nat)(wy:AV)(H:AH):Prop
 |mk {ρ:aB} {H1 H2:AH} {ug:AV} {bs:List UInt8} {H3:AH} {x6:AV} {H4 H5:AH} {ρ':aB} {H6 H7:AH} {vs:List AV} {H8 H9:AH} (w1:CK ⟨run n,100000,false⟩ (eS 6 lx) ([wy]++CR 9 .undef) H=.ok (.next ρ) H1) (w2:ev ⟨run n,100000,false⟩ aex 4 ρ H1=.ok (.bool false) H2)
  (w3:ev ⟨run n,100000,false⟩ (.var 3) 4 ρ H2=.ok ug H2) (AI:ev ⟨run n,100000,false⟩ (.var 3) 4 ρ H4=.ok ug H4) (w4:Wr n ug H2 bs H3) (w5:run n 17 [.bytes bs] H3=.ok x6 H4) (w6:run n 4 [x6,ug] H4=.ok (.bool true) H5)
  (w7:exec ⟨run n,100000,false⟩ nq ρ H5=.ok (.next ρ') H6) (w8:ev ⟨run n,100000,false⟩ kX 4 ρ' H6=.ok (.bool true) H7) (w9:uj ⟨run n,100000,false⟩ jU 4 ρ' H7=.ok vs H8) (Af:vs.length=2) (Bg:run n 30 vs H8=.ok (.bool true) H9):AM n wy H
section
theorem TE.o{e f:PE}{es:ui}{v:CJ}(h:TE vis nk (.bor (.cons e (.cons f es))) v):∃fs pos,v=.BoolOp .Or fs pos/\vg vis nk (.cons e (.cons f es)) fs:=(bR _ _ h.1 h.2.1)
theorem TE.nt{e:PE}{v:CJ}(h:TE vis nk (.not e) v):∃l pos,v=.UnaryOp .Not l pos/\TE vis nk e l:=(bR _ _ h.1 h.2)
end
section
theorem aad{pes:ui}(S:ES c A env nk n m)(hh:A.handled=none)(CO:eU c n)(hc:jj k=true)(hg:glob? nk (cW k)=true)(D:u6 c env vis ρ B μ H s.heap)(ht:TE vis nk pe e)(hs:ua c n vis nk pes es)
  (h:ai (CG c.prog c.w) A (eval e env) (λv tz=>∃x H1 B1 vj h1 t1,tz={s with heap:=h1,toks:=t1}/\B.StaysIn B1/\Pre μ vj/\VR B1 vj x v/\Inv c.prog c.w B1 c.U vj H1 h1/\
   tj c tz B1 vj VR ((uj c.Γ pes m ρ H1).bind λys H=>c.Γ.C k (x::ys) H) Q bH) s):
  ai (CG c.prog c.w) A (eval (.Call (.Name (cW k) np) (e::es) [] pos) env) Q s:=by
 simp only[jj,Bool.and_eq_true,C9] at hc;obtain⟨⟨zC,yT⟩,xT⟩:=hc;have xT:k≠30/\k≠31:=by simpa using xT
 obtain⟨⟨np',nv,bd⟩,hf⟩:=FR.mp zC;obtain⟨g,b,n1,n2,_,n4,_⟩:=(D.uD.ns);refine lk rfl (eg S D hg (ax g b n1 n2 (.inl (n4 k _ _ _ hf yT))) ?_);obtain⟨ob,fd,g1,g2⟩:=D.uD.fns k _ _ _ hf (CV (CT yT (by decide))) xT.1 xT.2;refine aae (P:=uZ (.ref (bK k))) (kF (env:=env) (pos:=pos) (pes:=.cons pe pes) ⟨rfl,ht,ua.len hs⟩).1 (λh x=>x.wq h) ?_;rw[ku ht];refine ae8 (cQ h λv tz tC=>?_);(revert tC;refine r_eeeeee λx H1 B1 vj h1 t1=>r_aaaaa λzq6 wV wo vx I1 P=>?_;subst zq6);have D1:u6 c env vis ρ B1 vj H1 h1:=D.step wV wo I1;refine c8 (hs.sound A env ρ m B1 vj H1 {s with heap:=h1,toks:=t1} _ bH pos S D1 (aX D1 P λys H2 B2 vN s2 cys e2 D2 vys u5 uk P2=>?_));refine⟨.inr (.inr (.inl (bZ _ ob fd rfl (D2.inv.base _ _ (u5 _ _ (wV _ _ g1))) g2))),c8 ?_⟩;exact CO A k (x::ys) (v::cys) B2 vN H2 s2 Q bH S.xO S.deep (by have:=S.units;exact mn this) hh D2.inv D2.uD (.cons (vx.mono u5 uk) vys) (LH yT) xT.1 xT.2 P2
theorem ae9{ug:AV}{bs:List UInt8}(hS:gA A c.U c.fs)(hd:A.depth+n<480)(hu:A.units+60*n<=8950)(hh:A.handled=none)
  (hC:c.Γ.C=run n) (CO:eU c n) (I:Inv c.prog c.w B c.U μ H s.heap) (G:ur c.prog c.w B) (hv:tK B μ [ug] tA) (W:Wr n ug H bs H') (P:tj c s B μ VR (.ok (.bytes bs) H') Q bH):ai (CG c.prog c.w) A (call (.ref (bK 18)) tA) Q s:=by
 rcases W with W |⟨m,rfl,W⟩
 ·exact c8 (CO A 18 _ tA B μ H s Q bH hS hd hu hh I G hv (by decide) (by decide) (by decide) (by rw[hC,W];exact P))
 ·exact N18 hS hd hu hh I G hv W P
section
theorem aeY{ug x6:AV}{bs:List UInt8}{H1 H2 H3:AH}{v:CJ}{Q:Bool->CI->Prop}(S:ES c A env nk n m)(hA:A.handled=none)(hC:c.Γ.C=run n)(CO:eU c n)(SE:∀{pe:PE}{e:CJ},TE vis nk pe e->ut c n vis nk pe e)(D:u6 c env vis ρ B μ H s.heap)
  (t:TE vis nk (.not (.call 4 (.cons (.call 17 (.cons (.call 18 (.cons (.var 3) .nil)) .nil)) (.cons (.var 3) .nil)))) v) (w3:ev c.Γ (.var 3) m ρ H=.ok ug H) (AI:ev c.Γ (.var 3) m ρ H2=.ok ug H2)
  (w4:Wr n ug H bs H1) (w5:run n 17 [.bytes bs] H1=.ok x6 H2) (w6:run n 4 [x6,ug] H2=.ok (.bool true) H3)
  (k:∀B' tB h' t',B.StaysIn B'->Pre μ tB->Inv c.prog c.w B' c.U tB H3 h'->Q false {s with heap:=h',toks:=t'}):ai (CG c.prog c.w) A (isTrue v env (eval v env)) Q s:=by
 obtain⟨_,_,rfl,tn⟩:=t.nt;obtain⟨_,_,_,rfl,hc4,hg4,ta⟩:=tn.cl;obtain⟨_,_,rfl,Ad,ta⟩:=ta.c;obtain⟨_,_,rfl,AF,ta⟩:=ta.c;obtain rfl:=ta.n;have atH:=Ad;obtain⟨_,_,_,rfl,atb,atg,tb⟩:=Ad.cl;obtain⟨_,_,rfl,AG,tb⟩:=tb.c;obtain rfl:=tb.n;have atJ:=AG;obtain⟨_,_,_,rfl,atX,ath,tc⟩:=AG.cl;obtain⟨_,_,rfl,tc1,tc⟩:=tc.c;clear tb ta;obtain rfl:=tc.n;obtain⟨g,b,n1,n2,_,n4,_⟩:=(D.uD.ns);obtain⟨ob,BB,g1,g2⟩:=D.uD.fns 18 _ _ _ rfl (by decide) (by decide) (by decide);have hu:=S.units;refine ae2 (ae3 ?_);refine aad (ρ:=ρ) (m:=m) S hA CO hc4 hg4 D atH (.cons (SE AF) .nil) ?_;refine aad (ρ:=ρ) (m:=m) S hA CO atb atg D atJ .nil ?_;refine lk rfl (eg S D ath (ax g b n1 n2 (.inl (n4 18 _ _ _ rfl (by decide)))) ?_);refine mz (.cons (SE tc1) .nil) S D ?_;refine tj.eq (abT w3) ?_;intro B3 za h3 k3 as7 vZ uY I3 v3;refine⟨.inr (.inr (.inl (bZ _ ob BB rfl (I3.base _ _ (vZ _ _ g1)) g2))),?_⟩;refine ae9 (n:=n) S.xO S.deep (mn hu) hA hC CO I3 (D.uD.mono vZ) v3 w4 ?_;intro B4 zc h4 k4 cb wW vB I4 vb;refine(dU _ H1 B4 zc h4 k4 (gN rfl (λZ Z e=>wW _ _ (vZ _ _ e)) (uY.trans vB) vb I4 ?_));rw[hC];refine tj.eq w5 ?_;intro B5 zd h5 k5 cp xx vJ I5 vp;refine(dU _ H2 B5 zd h5 k5 (gN rfl (λZ Z e=>xx _ _ (wW _ _ (vZ _ _ e))) ((uY.trans vB).trans vJ) vp I5 ?_));refine tj.beq (abT AI) (tj.eq w6 ?_);intro B6 Bh h6 k6 cw Ar yC I6 vw;have e:=vw.b;clear vw;subst e;exact(ae true rfl (k B6 Bh h6 k6 (λZ Z e=>Ar _ _ (xx _ _ (wW _ _ (vZ _ _ e)))) (((uY.trans vB).trans vJ).trans yC) I6))
theorem ae0{zr:CJ}{args:List CJ}{cp bp:Pos}{H1 H2:AH}(S:ES c A env nk (n+1) m)(hA:A.handled=none)(SE:∀{pe:PE}{e:CJ},TE vis nk pe e->ut c (n+1) vis nk pe e)(D:u6 c env vis ρ B μ H s.heap)(X:wZ B P)(hP:c.U P (tabObj #[]))
  (tv:TE vis nk kX zr) (ta:vg vis nk jU args) (hg:glob? nk (cW 30)=true) (w8:ev c.Γ kX m ρ H=.ok (.bool true) H1) (w9:uj c.Γ jU m ρ H1=.ok vs H2) (Af:vs.length=2) {H3:AH} (Bg:run (n+1) 30 vs H2=.ok (.bool true) H3)
  (k:∀h' t',B.StaysIn h'->(∃ps,h'.get? P=some (tabObj ps))->Q (.bool true) {s with heap:=h',toks:=t'}):CH (CG c.prog c.w) A (eval (.BoolOp .And [zr,.Call (.Name (cW 30) np) args [] cp] bp) env) Q bH s:=by
 obtain⟨_,_,rfl,Ad,ta⟩:=ta.c;obtain⟨_,_,rfl,AF,ta⟩:=ta.c;obtain rfl:=ta.n;have hu:=S.units;refine BoolOp_and ((SE tv).v A env ρ m B μ H _ _ bH S D ?_);refine tj.eq w8 ?_;intro B8 μ8 h8 k8 cv8 BG aty I8 v8;have e:=v8.b;clear v8;subst e;refine EY (IJ ?_);have D8:u6 c env vis ρ B8 μ8 H1 h8:=D.step BG aty I8;obtain⟨g,b,n1,n2,_,n4,_⟩:=(D8.uD.ns);refine FA rfl (eg S D8 hg (ax g b n1 n2 (.inl (n4 30 _ _ _ rfl (by decide)))) ?_);have X8:=X.mono BG;refine jI (first:= []) (.cons (SE Ad) (.cons (SE AF) .nil)) S D8 ?_
 refine tj.eq w9 ?_;intro B9 μ9 h9 k9 cv9 AT at0 I9 v9;refine o_eeeeee X8.ex λfd3 Z Z Z Z Z=>r_eeea λZ Z Z D30 Z=>?_;obtain⟨o3,e3,e4⟩:=D30.ob;refine⟨.inr (.inr (.inl (bZ _ o3 fd3 rfl (I9.base _ _ (AT _ _ e3)) e4))),?_⟩;exact N30 (n:=n) S.xO S.deep (am7 hu) hA I9 (D8.uD.mono AT) (X8.mono AT) hP v9 Af Bg λh' t' st pt=>k _ _ (λZ Z e=>st _ _ (AT _ _ (BG _ _ e))) pt
end
theorem N31{wy:AV}{Q:Flow->CI->Prop}(hS:gA A c.U c.fs)(hd:A.depth+(n+1)<480)(hu:A.units+60*(n+1)<=8950)(hh:A.handled=none)(I:Inv c.prog c.w B c.U μ H s.heap)(G:ur c.prog c.w B)(G31:xP B)(X:wZ B P)(hP:c.U P (tabObj #[]))
  (hv:tK B μ [wy] tA) (L:AM n wy H) (hn:∃n',n=n'+1) (k:∀h' t',B.StaysIn h'->(∃ps,h'.get? P=some (tabObj ps))->Q (.ret (.bool true)) {s with heap:=h',toks:=t'}):dn (CG c.prog c.w) A (.call (.ref (bK 31)) ⟨tA,[]⟩) Q s:=by
 cases L with |@mk ρ H1 H2 ug bs H3 x6 H4 H5 ρ' H6 H7 vs H8 H9 w1 w2 w3 AI w4 w5 w6 w7 w8 w9 Af Bg=>
 refine o_eeeeee G31.ex λfd body zr args ps vis=>r_eeeeaa λnp cp bp rp D uE=>r_aaaa λF wG atL atI ati=>?_;refine qw (c:=c) D F I G.nolimit hv rfl (by show A.depth<1000;omega) (λtC ux uN FS=>?_) uE;have K:=mP n (c.inner (C0 fd s.heap.objs.size (bK 31)) n) rfl;have T:=lI (c:=c) (n:=n) D F hS hd hu hh uN;(revert uN FS K T;refine gn (C0 fd s.heap.objs.size (bK 31)) λenv uN FS K T=>?_);refine re λQF kQ=>?_;obtain⟨a6,a2,rfl,tp,ts⟩:=wG.split 6;rw[List.append_assoc];refine py K F.ok T (s:={s with heap:=tC,toks:=ux}) tp FS G w1 λB1 vj U1 h1 k1 wV wo G1 F1=>?_;have hA:(A.deeper env).handled=none:=hh;obtain⟨_,_,rfl,t1,ts⟩:=ts.c;obtain⟨_,_,rfl,t2,ts⟩:=ts.c;obtain rfl:=ts.n;(refine o_eeeeaa t1.i λZ Z Z Z zq4 tt=>r_a λtx ty=>?_;subst zq4);obtain rfl:=ty.n;obtain⟨_,_,rfl,to⟩:=(tt.o);obtain⟨_,_,rfl,to1,to⟩:=to.c;obtain⟨_,_,rfl,to2,to⟩:=to.c;clear tt t1 ts D wG;obtain rfl:=to.n;have S1:=T.es F1;have D1:=cL F1 G1;refine hZ (aeW (ae6 (c8 ((cG K.1.CO K.1.NO K.1.LR K.1.ZR to1 U1).b (A.deeper env) env ρ 4 B1 vj H1 _ _ bH S1 D1 ?_))));refine tj.beq w2 ?_;rintro B2 vN h2 k2 _ u5 uk I2 ⟨⟩;have D2:u6 ((c.inner env n).tF U1) env vis ρ B2 vN H2 h2:=D1.step u5 uk I2;refine aeY (c:=(c.inner env n).tF U1) (m:=4) S1 hA rfl (K.1.CO U1) (λt=>cG K.1.CO K.1.NO K.1.LR K.1.ZR t U1) D2 to2 w3 AI w4 w5 w6 λB6 Bh h6 k6 Ar yC I6=>?_;have zy:B1.StaysIn B6:=λZ Z e=>Ar _ _ (u5 _ _ e);have F6:=F1.step zy (uk.trans yC) I6;have G6:=G1.mono zy;refine c8 (Fk ?_);refine pr (c:=c.inner env n) (s:={s with heap:=h6,toks:=k6}) K F.ok t2 T F6 G6 w7 λB7 μ7 U7 h7 k7 hB7 atZ G7 F7=>?_;clear hd hu w1 w2 w3 AI w4 w5 w6 w7 G1 F1 S1 D1 I2 D2 I6 F6 G6;obtain⟨n',rfl⟩:=hn;have S7:=T.es F7;have D7:=cL F7 G7;have asq:B.StaysIn B7:=λZ Z e=>hB7 _ _ (zy _ _ (wV _ _ e));exact hZ (pq (c8 (ae0 (c:=(c.inner env (n'+1)).tF U7) (m:=4) S7 hA (λt=>cG K.1.CO K.1.NO K.1.LR K.1.ZR t U7) D7 (X.mono asq) (F7.keep _ _ hP) atL atI ati w8 w9 Af Bg λh' t' st pt=>kQ _ _ (k _ _ (λZ Z e=>st _ _ (asq _ _ e)) pt))))
end
variable {o:Obj}
section
set_option maxRecDepth 1000000
noncomputable def jt(ok:Thread->Bool)(st:SharedT->Thread->Option (SharedT×Thread)):Nat->SharedT->Thread->Option SharedT
 |0,_,_=>none
 |n+1,s,t=>match through t with
  |true=>some s
  |false=>match ok t with
   |false=>none
   |true=>match st s t with
    |some (s',t')=>jt ok st n s' t'
    |none=>none
theorem ah1{ok:Thread->Bool}{st:SharedT->Thread->Option (SharedT×Thread)}{s:SharedT}{t:Thread}:jt ok st (n+1) s t=(match through t with
  |true=>some s
  |false=>match ok t with
   |false=>none
   |true=>match st s t with
    |some (s',t')=>jt ok st n s' t'
    |none=>none):=rfl
theorem ah2{p:Program}{xZ:Nat}{ann:Option CE}:∀{n:Nat}{s s':SharedT}{t:Thread},jt (stepOk xZ ann) (stepT (denote treeTable) p w) n s t=some s'->topRun treeTable p w xZ ann n s.abs t=some s'.abs:=by
 intro zi
 induction zi with
 |zero=>
 exact @λZ Z Z h=>by cases h
 |succ n ih=>
 exact @λs s' t h=>by
  rw[ah1] at h;unfold topRun
  cases ht:through t with
  |true=>rw[ht] at h;cases h;rfl
  |false=>
   rw[ht] at h
   cases hk:stepOk xZ ann t with
   |false=>rw[hk] at h;cases h
   |true=>
    rw[hk] at h
    cases hs:stepT (denote treeTable) p w s t with
    |none=>rw[hs] at h;cases h
    |some r=>obtain⟨tM,ve⟩:=r;rw[hs] at h;dsimp only at h⊢;rw[stepT_spec hs];exact ih h
theorem ah0(p:Program)(w:CW)(xZ:Nat)(ann:Option CE)(n:Nat)(s:SharedT)(t:Thread):
  jt (stepOk xZ ann) (stepT (denote treeTable) p w) n s t=jt (Mq xZ ann) (Mn (Mo Mp) p w) n s t:=by
 rw[Nw,Nr,Nt,Nu]
noncomputable def aqo(h:CL):BT:=(h.objs.toList.foldl (λ(x:BT×Nat) o=>(x.1.ins x.2 o,x.2+1)) (.nil,0)).1
end
theorem aqk{t:Sem Mm}{R:Result->CI->Prop}(ats:s.asleep)
  (h:ai (CG prog w) callerA t (λfin s'=>∃f,fin=.done f/\(R (.ok f) s'/\leftWithCleanup s'.gens=false)) s):
  ∃n r s' wx,runN (denote table) prog w n s ⟨t,.builtin "claim.caller" {},default,[]⟩=.halted (outcomeOf r) s'/\
   schedN (denote table) prog w n (.single s ⟨t,.builtin "claim.caller" {},default,[]⟩)=.halted (outcomeOf r) s'/\s'.forget=wx.forget/\R r wx:=by
 have hw:Sem.wp (CG prog w) ⟨.builtin "claim.caller" {},none,none,[],none⟩ t (Sem.finPost (CG prog w) ⟨.builtin "claim.caller" {},none,none,[],none⟩ λr s'=>R r s'/\leftWithCleanup s'.gens=false) (λe Z s'=>R (.error e) s'/\leftWithCleanup s'.gens=false) default s:=by refine Hz _ _ t (λfin p' s' h'=>?_) (λZ Z Z h'=>h'.elim) default s (h _ default caller_in rfl (λZ hx=>by cases hx));obtain⟨f,rfl,hf⟩:=h';exact hf
 refine o_eeeeaa (wp_halts_full (M:=CG prog w) (R:=R) ats hw) λn r tz tM hs hn=>r_a λBW hR=>?_;exact(ef n r tM tz hn hs (bE BW hR))
theorem age{c:ClaimW}{tree:List CE->Sem Mm}{free:CF->Prop}{gens:Prop}{kept:CL->Prop}(hz:s.asleep)(wB:s.gens=#[])
  (asQ:∀args,c.pre args=true->MC args=true->
   ∀ord:List DictEntry->List DictEntry,(∀l,(ord l).Perm l)->
   ∃vs tz,layAllW c.records (classAt s.heap) w.params ord args s=some (vs,tz)/\
    ai (CG c.prog w) callerA (tree vs) (λfin s'=>∃f,fin=.done f/\(c.Ends s args vs tz (.ok f) s'/\s'.os=s.os/\AllBare s'.gens/\kept s'.heap)) tz):
  c.CallFrom (λvs=>⟨tree vs,.builtin "claim.caller" {},default,[]⟩) w free gens kept s:=by
 intro args xX yv ord yX;refine rd λG kG=>?_;obtain⟨vs,tz,vV,wm⟩:=asQ args xX yv ord yX;have Av:=layAllW_rest _ _ _ vV;refine o_eeeeaa (aqk (prog:=c.prog) (w:=w) (t:=tree vs) (s:=tz)
  (R:=λr s'=>c.Ends s args vs tz r s'/\s'.os=s.os/\kept s'.heap)
  (CI.asleep_of_life Av.2.2.2 hz)
  (cQ wm (by
   intro fin s' yc;obtain⟨f,e,h1,h2,h3,h4⟩:=yc;exact(aI f e ⟨h1,h2,h4⟩ (leftWithCleanup_false_of_bare h3))))) λk r s' wx yz arB=>r_aaa λBW xh hos yu=>?_
 obtain⟨eh,_,_,eo,_⟩:=CI.forget_eq BW;have xh:=xh.congr eh;have yu:kept s'.heap:=by rw[eh];exact yu
 rw[<-eo] at hos;have asJ:s'.heap.life=s.heap.life:=(runN_life _ _ _ yz).trans Av.2.2.2;refine kG (air vs tz vV k _ s' (gN arB ?_ (λZ i x hx=>by rw[wB] at hx;simp at hx) yu (by rw[asJ]) (CI.rest_eq hos)));clear yz arB;rcases xh with⟨v,rfl,d1,d2,d3,d4,d5⟩ |⟨e,ob,cls,rfl,d1,d2,d3,d4,d5⟩
 ·exact .inl (gb v rfl d1 d2 d3 (λb o y Z=>d4 b o y) d5)
 ·exact .inr (ce e ob cls rfl d1 d2 (bT d3 d4 (λb o y Z=>d5 b o y)))
theorem anS{r:OpenRow}{q:Program}{loose:List Str}{Xt:CI->Bool}{Yf:CI->α}{Ya:CW->α}{YP:CW->CL->Prop}{d:DefRec}{Co:List (Str×CJ)}{N:Nat}
  (left:LeftO r.prog q loose Xt Yf Ya N) (hY:∀w s,Yf s=Ya w->YP w s.heap) (hYk:∀w h h',YP w h->(∀b o,h.get? b=some o->h'.get? b=some o)->YP w h')
  (yq:defOf q r.name=some (d,Co)) (hp:r.prog.theDef r.name=some (d.params,d.body,d.scope)) (hk:kwWritten? d.params.kwonlyargs d.params.kw_defaults=some Co) (yZ:r.records=[])
  (k1:r.wellSaid=true) (ok:(chainsOk q&&opensWell r.prog&&(frees r.toRowW&&r.within.isEmpty))=true) (hb:r.prog.bare) (hw:r.toRowW.promised)
  (call:∀(w:CW)(xH tz:CI)(mg mb:Str->Option CE),Ground q loose r.records (λZ Z=>True) w xH mg mb tz.heap->YP w tz.heap->∀(a:CF),mg r.name=some (.ref a)->∀(args:List WData)(vs:List CE)(as:List CF),
   r.claim.pre args=true->MC args=true->Laid r.records w xH tz args vs as->
    ai (CG r.prog w) callerA (Ms (.ref a) vs) (λv s'=>GoodWG r.claim (classAt xH.heap) (ExcName.means xH.heap) args tz (.ok (.ret v)) s') tz):r.Holds:=by
 refine⟨k1,hw,?_⟩;obtain⟨ok,k5⟩:=Fm.mp ok;obtain⟨hch,o1⟩:=Fm.mp ok;obtain⟨k5,k6⟩:=Fm.mp k5;obtain⟨wE,hu,ha,hap,hm⟩:=frees_parts k5;have RF0:∀h,RecFacts r.records h:=λh=>recFacts_nil yZ;have hX:∀s:CI,Xt s=true->(λ(_:Str->Option CE) h=>True/\RecFacts r.records h) (s.heap.nsMap Dm) s.heap:=λs Z=>⟨trivial,RF0 _⟩;refine⟨⟨hb,o1,by show r.makers.map _=[];rw[hm];rfl⟩,hw.witness,λw=>⟨(left.behind (XP:=λZ h=>True/\RecFacts r.records h) hX hch w).1,λs' xy=>?_⟩⟩;refine o_eaaeaa ((left.behind (XP:=λZ h=>True/\RecFacts r.records h) hX hch w).2 s' xy) λxH hf hg0 s hT hz=>r_aaa λwB hg ye y=>?_;have G0:Ground q loose [] (λZ Z=>True) w s (s.heap.nsMap Dm) (s.heap.nsMap Ej) s.heap:=⟨ye.T,ye.B,ye.D,ye.TE,ye.TD,ye.W,trivial,ye.cls,ye.has,ye.apart,ye.once,ye.K⟩;have RF:=RF0 s.heap;have hT':=hT;refine(ain xH hf hg0 s hT (λn hn=>?_) (bT RF.1 RF.2.1 ?_))
 ·obtain rfl:n=r.name:=by split at hn<;>simp_all
  exact pinned_of_view hg G0 yq hp hk
 have wB:s.gens=#[]:=Array.eq_empty_of_size_eq_zero (Df.mp wB);have G:Ground q loose r.records (λZ Z=>True) w s _ _ s.heap:=RF.ground G0;refine age (c:=r.claim) hz wB λargs xX yv ord yX=>?_;obtain⟨⟨vs,tz⟩,vV⟩:=FR.mp (layAllW_isSome (P:=w.params) (ord:=ord) G.has args r.args s (pre_splitW xX).1);have keeps:=layAllW_keeps _ _ _ vV;have Av:=layAllW_rest _ _ _ vV;refine o_eaa (reads_layAllW yX _ _ _ vV yv tz.heap (λZ Z e=>e)) λas A5 A2 hold=>?_;have L:Laid r.records w s tz args vs as:=⟨(ae ord yX vV),A5,A2,hold,keeps,Av.1.trans wB,Av.2.2.1⟩;have zu:=G.keeps (λZ Z Z Z Z=>trivial) keeps;refine o_eeeeee (zu.fn yq) λa o pm cd doc dV=>r_eaaaa λkV h1 h2 h3 h4 h5=>?_;have hi:=ident_freeW hu ha hap;have AB:r.claim.within=[]:=DX.mp k6;have h:=call w s tz _ _ zu (hYk _ _ _ (hY w s y) keeps) a h1 args vs as xX yv L;refine(bR vs tz vV ?_);show ai _ callerA (do match<-nsGet mainNs r.name with
   |some f=>do ret (<-Ms f vs)
   |none=>unsupported "claim.caller:no-such-global") _ _
 refine bg (wpAny_nsGet zu.T.g ?_);rw[h1];refine bv (cQ h λv s' g=>c9 (ae _ rfl ?_));have z:=g.laid (c:=r.claim) wE AB hi L;exact(bY z.1 z.2.1 z.2.2 (λq=>⟨namesKept_of hT' hg r.keeps keeps g.2.1.old,noTable (by show(!r.writes||r.records.isEmpty)=true;rw[yZ];simp) q⟩))
noncomputable abbrev Gt:=CF->Option Obj
noncomputable def bu(h:CL)(P:CF):Gt:=λa=>if a==P then none else h.get? a
noncomputable def bF(h:CL)(P:CF):CL:=gX h (λa=>a≠P)
theorem iN(e:bu h P a=some o):(bF h P).get? a=some o:=by
 by_cases q:a=P
 ·rw[bu,CM (Df.mpr q)] at e;cases e
 ·rw[bu,CQ λx=>q (eq_of_beq x)] at e;exact cP.mpr ⟨e,q⟩
noncomputable def dZ:CE->CF | .ref a=>a |_=>0
noncomputable def ix:CE->Tok | .str _ t=>t | .bytes _ t=>t | .int _ t=>t |_=>0
noncomputable def aqw:CE->Str | .str s _=>s |_=>""
noncomputable def aeK:CE->Int | .int i _=>i |_=>0
noncomputable def aqr:CE->Bool | .bool b=>b |_=>false
noncomputable def lN:Data->Option (Array CE) | .fields vs=>some vs |_=>none
noncomputable def qF:Data->Option FuncData | .func f=>some f |_=>none
noncomputable def aby:Data->Option (Array CE×Nat) | .seq v n=>some (v,n) |_=>none
noncomputable def abw:Data->Option (Array DictEntry×Nat) | .dict v n=>some (v,n) |_=>none
noncomputable def abv:Data->Option ClassData | .cls c=>some c |_=>none
noncomputable def abY:FuncBody->Option (List Stmt) | .stmts b=>some b |_=>none
theorem qE{x:Array CE}(h:lN d=some x):d=.fields x:=by cases d<;>first |(cases h;rfl) |exact nomatch (h:none=some x)
theorem agI{x:FuncData}(h:qF d=some x):d=.func x:=by cases d<;>first |(cases h;rfl) |exact nomatch (h:none=some x)
theorem agK{x:Array CE×Nat}(h:aby d=some x):d=.seq x.1 x.2:=by cases d<;>first |(cases h;rfl) |exact nomatch (h:none=some x)
theorem agH{x:Array DictEntry×Nat}(h:abw d=some x):d=.dict x.1 x.2:=by cases d<;>first |(cases h;rfl) |exact nomatch (h:none=some x)
theorem agG{x:ClassData}(h:abv d=some x):d=.cls x:=by cases d<;>first |(cases h;rfl) |exact nomatch (h:none=some x)
theorem aht{d:FuncBody}{x:List Stmt}(h:abY d=some x):d=.stmts x:=by cases d<;>first |(cases h;rfl) |exact nomatch (h:none=some x)
theorem cA{f:α->Bool}:∀{o:Option α},o.any f=true->∃a,o=some a/\f a=true
 |some a,h=>(ae a rfl h)
def pj:List Bool->Prop
 |[]=>True
 |b::l=>b=true/\pj l
theorem eb:∀{l:List Bool},l.all id=true->pj l:=by
 intro zi
 induction zi with
 |nil=>
 exact @λZ=>trivial
 |cons Z Z ih=>
 exact @λh=>⟨(aa h).1,ih (aa h).2⟩
theorem iq{b:Bool}(h:(!b)=true):b=false:=by cases b;rfl;cases h
theorem jh{l:List α}(h:l.isEmpty=true):l=[]:=DX.mp h
noncomputable def jH(fd:FuncData):List Str:=fd.params.args.map (·.arg)
noncomputable def hF(sc:Scope):aN:=(((sc.names.filter λp=>p.2==.local||p.2==.cell).map (·.1)).zipIdx).map λp=>(p.2,p.1)
def abi(gt:Gt)(fd:FuncData):Bool:=fd.code==.ref (dZ fd.code)&&(gt (dZ fd.code)).any λo=>(lN o.data).any λvs=>(vs[1]? :Option CE).any λv=>v==.str fd.qualname (ix v)
def iK(gt:Gt)(a:CF)(f:FuncData->List Stmt->Bool):Bool:=(gt a).any λo=>(qF o.data).any λfd=>(abY fd.body).any λbody=>[fd.globals==Dm,fd.builtins==Ej,fd.defaults==.none,mT fd.params (jH fd),fd.scope.kind==.function,!fd.scope.isGenerator,!fd.scope.isCoroutine,fd.closure.isEmpty,abi gt fd,f fd body].all id
section
theorem agp(e:abi (bu h P) fd=true):(bF h P).CodeRec fd.code fd.qualname:=by obtain⟨o,ho,e1⟩:=cA (aa e).2;obtain⟨vs,hv,e1⟩:=cA e1;obtain⟨v,hq,e1⟩:=cA e1;exact(ef _ o vs _ (eq_of_beq (aa e).1) (iN ho) (bE (qE hv) (hq.trans (CN some (eq_of_beq e1)))))
theorem lS{f:FuncData->List Stmt->Bool}(e:iK (bu h P) a f=true):∃fd body,vn (bF h P) a fd body (jH fd)/\fd.closure=[]/\f fd body=true:=by obtain⟨o,ho,e⟩:=cA e;obtain⟨fd,hd,e⟩:=cA e;obtain⟨body,hb,e⟩:=cA e;have e:=eb e;exact(ax fd body ⟨(ae o (iN ho) (agI hd)),aht hb,eq_of_beq e.1,eq_of_beq e.2.1,eq_of_beq e.2.2.1,e.2.2.2.1,eq_of_beq e.2.2.2.2.1,iq e.2.2.2.2.2.1,iq e.2.2.2.2.2.2.1,agp e.2.2.2.2.2.2.2.2.1⟩ (jh e.2.2.2.2.2.2.2.1) e.2.2.2.2.2.2.2.2.2.1)
def qY(gt:Gt)(k:Nat):Bool:=(dK k).all λp=>k==41||(k==30||(k==31||iK gt (bK k) λfd body=>lU p.1 p.2.1 (hF fd.scope) (jH fd) fd.scope.names&&u8 (hF fd.scope) fd.scope.names p.2.2 body))
theorem ahC{x:Nat×Nat×tW}(e:dK k=some x):k<42:=by
 unfold dK at e
 by_cases h:k<42
 ·exact h
 ·rw[CQ h] at e;cases e
theorem oJ{a b:Bool}(h:(a||b)=true)(n:¬a=true):b=true:=(II.mp h).resolve_left n
theorem ahB(e:(CS 42).all (qY (bu h P))=true){np:Nat}(hk:dK k=some (np,nv,bd))(q1:k≠41)(q2:k≠30)(q3:k≠31):FnAt (bF h P) k np nv bd:=by have e:=C1.mp e k (Fq.mpr (ahC hk));rw[qY,hk] at e;refine o_eeaa (lS (oJ (oJ (oJ e λq=>q1 (eq_of_beq q)) λq=>q2 (eq_of_beq q)) λq=>q3 (eq_of_beq q))) λfd body D hc hf=>?_;exact(ef fd body _ _ D hc (bE (qZ (aa hf).1) (ud _ _ _ _ (aa hf).2)))
noncomputable def gW(m:Str->Option CE)(x:Str)(a:CF):Bool:=m x==some (.ref a)
theorem iw{m:Str->Option CE}(e:gW m x a=true):m x=some (.ref a):=eq_of_beq e
def jZ(v:Option CE)(b:List UInt8):Bool:=v.any λv=>v==.bytes b.toArray (ix v)
theorem lH{v:Option CE}(e:jZ v b=true):∃t,v=some (.bytes b.toArray t):=by obtain⟨a,h,e⟩:=cA e;exact⟨_,h.trans (CN some (eq_of_beq e))⟩
noncomputable def mY(T:String)(o:Obj):Bool:=o.cls==.type T&&(o.dict.isNone&&o.slots.isEmpty)
theorem aaI{T:String}(e:mY T o=true):o=⟨.type T,none,o.data,#[]⟩:=by have h:=aa e;have h2:=aa h.2;have e1:o=⟨o.cls,o.dict,o.data,o.slots⟩:=rfl;rw[eq_of_beq h.1,EA.mp h2.1,IG.mp h2.2] at e1;exact e1
def aeG(T:String)(gt:Gt)(a:CF)(f:Array CE->Bool):Bool:=(gt a).any λo=>mY T o&&(aby o.data).any λp=>p.2==0&&f p.1
theorem aqp{T:String}{f:Array CE->Bool}(e:aeG T (bu h P) a f=true):∃vs,(bF h P).get? a=some ⟨.type T,none,.seq vs 0,#[]⟩/\f vs=true:=by obtain⟨o,ho,e⟩:=cA e;obtain⟨p,hp,e2⟩:=cA (aa e).2;refine(ae p.1 ?_ ((aa e2).2));have:=iN ho;rw[aaI (aa e).1,agK hp,eq_of_beq (aa e2).1] at this;exact this
def acR(gt:Gt)(v:Option CE):Bool:=v.any λv=>v==.ref (dZ v)&&aeG "tuple" gt (dZ v) λvs=>[vs.size==4,jZ vs[0]? aW,jZ vs[1]? aV,jZ vs[2]? aZ,jZ vs[3]? aU].all id
def ab7(gt:Gt)(m:Str->Option CE):List Bool:= [jZ (m (eG 0)) jX,(m (eG 1)).any (λv=>v==.int 9 (ix v)),acR gt (m (eG 2)),gW m (eG 3) 251,gW m (eG 4) 252,gW m (eG 5) 78,
 (CS 40).all (λk=>(dK k).isNone||gW m (cW k) (bK k)),gW m (gF 0) (bO 0),gW m (gF 1) (bO 1),gW m (cV 0) (aT 0),gW m (cV 1) (aT 1),gW m (cV 2) (aT 2)]
theorem ahM{vs:Array CE}{a b c d:CE}(h:vs.size=4)(h0:vs[0]?=some a)(h1:vs[1]?=some b)(h2:vs[2]?=some c)(h3:vs[3]?=some d):vs=[a,b,c,d].toArray:=
 Array.ext_getElem? λi=>match i with
  |0=>h0
  |1=>h1
  |2=>h2
  |3=>h3
  |i+4=>(J7 (om2 h)).trans rfl
theorem ajL{v:Option CE}(e:acR (bu h P) v=true):∃cv,v=some cv/\∀μ,VR (bF h P) μ (.tup mc) cv:=by obtain⟨cv,hv,e⟩:=cA e;obtain⟨vs,ho,e2⟩:=aqp (aa e).2;have e2:=eb e2;obtain⟨t0,h0⟩:=lH e2.2.1;obtain⟨t1,h1⟩:=lH e2.2.2.1;obtain⟨t2,h2⟩:=lH e2.2.2.2.1;obtain⟨t3,h3⟩:=lH e2.2.2.2.2.1;rw[ahM (eq_of_beq e2.1) h0 h1 h2 h3] at ho;exact(ae _ (hv.trans (CN some (eq_of_beq (aa e).1))) (λμ=>.tup _ _ _ ho (.cons (.bytes _ _ (by decide)) (.cons (.bytes _ _ (by decide)) (.cons (.bytes _ _ (by decide)) (.cons (.bytes _ _ (by decide)) .nil))))))
end
theorem jg{f:Nat->Bool}(e:(CS n).all f=true)(h:k<n):f k=true:=C1.mp e k (Fq.mpr h)
noncomputable def kh(h:CL)(P:CF):Frag:=(CS h.objs.size).filterMap λa=>(bu h P a).map λo=>(a,o)
theorem ai8{g:Gt}:∀{l:List CF}{a:CF}{o:Obj},(l.filterMap λa=>(g a).map λo=>(a,o)).lookup a=some o->g a=some o:=by
 intro zi
 induction zi with
 |nil=>
 exact @λa o e=>by cases e
 |cons b l ih=>
 exact @λa o e=>by
  rw[GB] at e
  cases q:g b with
  |none=>rw[q] at e;exact ih e
  |some o'=>
   rw[q] at e;replace e:(match a==b with |true=>some o' |false=>((l.filterMap λa=>(g a).map λo=>(a,o)).lookup a))=some o:=e
   cases r:a==b with
   |true=>rw[r] at e;cases e;rw[eq_of_beq r];exact q
   |false=>rw[r] at e;exact ih e
theorem acn:(kh h P).In (bF h P):=λa o e=>iN (ai8 e)
def aas(K:Frag)(c n:Nat):Bool:=plainGet K (bO c) (fU n)&&(hasDictIn K (bO c)&&(findIn K (.ref (bO c)) (fU n)).any (noGet K))
noncomputable def pT:List (Nat×Nat):= [(0,0),(0,1),(0,2),(1,3),(1,4),(1,5)]
theorem afq{c:Nat}(h:mV c n=some i):pT.contains (c,n)=true:=by
 have hc:=((oA (C:=λo=>o=some i) h).resolve_right nofun).1;have:((CS 2).all λc=>(CS 6).all λn=>(mV c n).isNone||pT.contains (c,n))=true:=by decide
 refine oJ (jg (jg this hc.1) (Nat.lt_of_lt_of_le hc.2.2 (En (Ea 3 (Eo hc.1)) 3))) λq=>?_;rw[h] at q;cases q
def kB(K:Frag):Bool:= [pT.all (λp=>aas K p.1 p.2),(CS 2).all (λk=>keepIn K (.ref (bO k))),plainGet K 147 "most",findIn K (.ref 147) "most"==some (some (.ref 144)),isFn K (.ref 144)].all id
theorem afp{c:Nat}(e:aas K c n=true):plainGet K (bO c) (fU n)=true/\hasDictIn K (bO c)=true/\∃a,findIn K (.ref (bO c)) (fU n)=some a/\noGet K a=true:=⟨(aa e).1,(aa (aa e).2).1,cA (aa (aa e).2).2⟩
theorem aiO(e:kB K=true):arz K:=by have e:=eb e;exact⟨λc n i hi=>afp (c:=c) (n:=n) (C1.mp e.1 (c,n) (Ib.mp (afq hi))),λk hk=>jg e.2.1 (Ew hk),e.2.2.1,eq_of_beq e.2.2.2.1,e.2.2.2.2.1⟩
def rB:List CE->Bool
 |[]=>false
 |v::r=>(v==.ref (dZ v)&&rB r)||(v::r==[.type "object"]||v::r==[.type "Exception",.type "BaseException",.type "object"])
theorem ajD(self:CE):∀{l:List CE},rB l=true->refuseLoop self "__setattr__" l=pure ():=by
 intro zi
 induction zi with
 |nil=>
 exact @λh=>by cases h
 |cons v r ih=>
 exact @λh=>by
  rcases II.mp h with h |h
  ·rw[eq_of_beq (aa h).1,refuseLoop_ref];exact ih (aa h).2
  ·rcases II.mp h with h |h
   ·rw[eq_of_beq h];exact refuse_only self rfl
   ·rw[eq_of_beq h];kernel_rfl
def sI(K:Frag)(C:CF)(x:Str):Bool:=(clsIn K C).any λcd=>[cd.hasDict,!cd.mro.isEmpty,cd.mro.contains (.type "object"),rB cd.mro,takerIn K C x==some none,findIn K (.ref C) "__setattr__"==some (some (.builtin "object.__setattr__"))].all id
theorem aej(e:sI K C x=true):∃cd,Stores K C x cd:=by obtain⟨cd,q,e⟩:=cA e;have e:=eb e;exact⟨cd,q,e.1,iq e.2.1,e.2.2.1,λself=>ajD self e.2.2.2.1,eq_of_beq e.2.2.2.2.1,eq_of_beq e.2.2.2.2.2.1⟩
def acU(K:Frag)(gt:Gt)(k:Nat):Bool:= [makesIn K (bO k),findIn K (.ref (bO k)) "__init__"==some (some (.ref (ju k))),typeIn K (.ref (ju k))==some (.type "function"),(CS 3).all (λi=>sI K (bO k) (bt k i)),
 iK gt (ju k) λfd body=>[jH fd==dz k,ri k body,(dz k).all λx=>fd.scope.names.lookup x==some .local].all id].all id
theorem ajQ(e:acU K (bu h P) k=true):uP K (bF h P) k:=by have e:=eb e;refine⟨e.1,eq_of_beq e.2.1,eq_of_beq e.2.2.1,λi hi=>aej (jg e.2.2.2.1 hi),?_⟩;obtain⟨fd,body,D,hc,hf⟩:=lS e.2.2.2.2.1;have hf:=eb hf;exact(jx fd body (eq_of_beq hf.1▸D) hc hf.2.1 (λx hx=>eq_of_beq (C1.mp hf.2.2.1 x hx)))
noncomputable def slot(o:Obj)(i:Nat):Option CE:=o.slots.getD i none
def abW(gt:Gt)(C:CF):Bool:=(gt C).any λo=>(abv o.data).any λcd=>[o.cls==.type "type",o.slots==#[slot o 0,slot o 1,slot o 2,slot o 3,some (.builtin "Exception.__new__"),slot o 5],cd.mro==.ref C::cd.mro.tail,cd.hasDict,!cd.hasDel,
  cd.mro.tail.contains (.type "Exception"),cd.mro.tail.contains (.type "BaseException"),!cd.mro.tail.contains (.type "AttributeError"),!cd.mro.tail.contains (.type "NameError"),!cd.mro.tail.contains (.ref 51),!cd.mro.tail.contains (.ref 63),!cd.mro.tail.contains (.ref 75)].all id
theorem aj5{c:CE}{s:Array (Option CE)}(h1:o.cls=c)(h2:o.data=d)(h3:o.slots=s):o=⟨c,o.dict,d,s⟩:=by cases h1;cases h2;cases h3;rfl
theorem agj{c:ClassData}{m:List CE}(h1:c.mro=m)(h2:c.hasDict=true)(h3:c.hasDel=false):c=⟨c.name,c.bases,m,c.ns,c.qualname,true,c.slotNames,c.subclasses,c.abstract,c.collection,false⟩:=by cases h1;exact h2▸h3▸rfl
theorem ahm(e:abW (bu h P) C=true):uW (bF h P) C:=by
 obtain⟨o,ho,e⟩:=cA e;obtain⟨cd,hd,e⟩:=cA e;have e:=eb e;exact⟨o,iN ho,_,_,_,_,_,_,_,_,_,_,_,_,_,_,_,aj5 (eq_of_beq e.1) ((agG hd).trans (CN Data.cls (agj (eq_of_beq e.2.2.1) e.2.2.2.1 (iq e.2.2.2.2.1)))) (eq_of_beq e.2.1),e.2.2.2.2.2.1,e.2.2.2.2.2.2.1,iq e.2.2.2.2.2.2.2.1,iq e.2.2.2.2.2.2.2.2.1,λk=>match k with
  |0=>iq e.2.2.2.2.2.2.2.2.2.1
  |1=>iq e.2.2.2.2.2.2.2.2.2.2.1
  |_+2=>iq e.2.2.2.2.2.2.2.2.2.2.2.1⟩
def abV(K:Frag)(gt:Gt)(k:Nat):Bool:= [abW gt (aT k),findIn K (.ref (aT k)) "__init__"==some (some (.ref 35)),typeIn K (.ref 35)==some (.type "function"),sI K (aT k) "message",keepIn K (.ref (aT k)),
 iK gt 35 λfd body=>[jH fd==fj,th body,(fj.all λx=>fd.scope.names.lookup x==some .local),fd.scope.names.lookup ("Exception":Str)==some .globalImplicit].all id].all id
theorem ahl(e:abV K (bu h P) k=true):uO K (bF h P) k:=by have e:=eb e;obtain⟨fd,body,D,hc,hf⟩:=lS e.2.2.2.2.2.1;have hf:=eb hf;exact⟨ahm e.1,eq_of_beq e.2.1,eq_of_beq e.2.2.1,aej e.2.2.2.1,e.2.2.2.2.1,fd,body,eq_of_beq hf.1▸D,hc,hf.2.1,λx hx=>eq_of_beq (C1.mp hf.2.2.1 x hx),eq_of_beq hf.2.2.2.1⟩
def aeN(v:AV)(cv:CE):Bool:=bI (eN (aF false v λi=>cv==.int i (ix cv)) v λs=>cv==.str s (ix cv)) v λb=>cv==.bytes b.toArray (ix cv)&&decide (b.length<=al)
theorem aqx(e:aeN v cv=true)(B:CL)(μ:List CF):VR B μ v cv:=by
 rcases mo (C:=(·=true)) e with⟨b,h,e⟩ |e
 ·rw[h,eq_of_beq (aa e).1];exact .bytes _ _ (Dv (aa e).2)
 rcases oE (C:=(·=true)) e with⟨s,h,e⟩ |e
 ·rw[h,eq_of_beq e];exact .str _ _
 rcases kz (C:=(·=true)) e with⟨i,h,e⟩ |e
 ·rw[h,eq_of_beq e];exact .int _ _
 ·cases e
def mt{K:Type}(asU:K->CE->Bool):List DictEntry->List (K×AV)->Bool
 |[],ps=>ps.isEmpty
 |e::es,ps=>(ps.head?.any λp=>asU p.1 e.key&&aeN p.2 e.val)&&mt asU es ps.tail
theorem anZ{K:Type}[DecidableEq K]{knd:KeyKind prog w K}{es:List DictEntry}:∀{tab:List (K×AV)},mt knd.is es tab=true->es.map (·.hash)=tab.map (λp=>knd.hash p.1)->
  ∃kvs,Pairs knd es kvs/\(∀e∈es,∃k,knd.is k e.key=true/\e.hash=knd.hash k)/\kvs.map (·.1)=tab.map (·.1)/\∀B μ,tK B μ (tab.map (·.2)) (kvs.map (·.2)):=by
 induction es with
 |nil=>intro tab h1 _;rw[jh h1];exact(cY [] (.nil) (λe he=>nomatch he) rfl (λZ Z=>.nil))
 |cons e es ih=>
  intro tab h1 h2
  cases tab with
  |nil=>cases h2
  |cons p ps=>
   have h3:=aa (aa h1).1;obtain⟨kvs,g1,g2,g3,g4⟩:=ih (aa h1).2 (Ha h2).2;refine(cY ((p.1,e.val)::kvs) (.cons h3.1 rfl g1) (λx hx=>?_) (CN (p.1::·) g3) (λB μ=>.cons (aqx h3.2 B μ) (g4 B μ)));rcases CX.mp hx with rfl |hx
   ·exact(ae p.1 h3.1 ((Ha h2).1))
   ·exact g2 x hx
def lO(gt:Gt)(a:CF):Option (List DictEntry):=(gt a).bind λo=>bif mY "dict" o then(abw o.data).map (·.1.toList) else none
theorem agR{l:List DictEntry}(e:lO (bu h P) a=some l):∃o es ep,(bF h P).get? a=some o/\o.ExactDict/\o.data=.dict es ep/\es.toList=l:=by
 obtain⟨o,ho,e⟩:=FQ.mp e
 cases hb:mY "dict" o with
 |false=>rw[hb] at e;cases e
 |true=>rw[hb] at e;obtain⟨p,hp,e⟩:=Es.mp e;have h1:=aaI hb;exact(ce o p.1 p.2 (iN ho) ⟨CN Obj.cls h1,CN Obj.dict h1,CN Obj.slots h1⟩ (agH hp) e)
theorem aes{K:Type}[DecidableEq K]{knd:KeyKind prog w K}{l:List DictEntry}{tab:List (K×AV)}(e:lO (bu h P) a=some l)(h1:mt knd.is l tab=true)(h2:l.map (·.hash)=tab.map (λp=>knd.hash p.1))(hn:(tab.map (·.1)).Nodup):
  ∃kvs:List (K×CE),(bF h P).DictOf knd a kvs/\vT (bF h P) tab kvs:=by
 obtain⟨o,es,ep,g1,g2,g3,g4⟩:=agR e;obtain⟨kvs,k1,k2,k3,k4⟩:=anZ (knd:=knd) h1 h2;exact(aI kvs (ce o es ep g1 g2 g3 (bT (λx hx=>k2 x (g4▸J8.mpr hx)) (g4.symm▸k1) (k3.symm▸hn))) k3 (λμ=>k4 _ μ))
def sN(gt:Gt)(k:Nat):Bool:=(lO gt (ee k)).any λl=>mt MB l (tabI k)&&l.map (·.hash)==(tabI k).map λp=>hashInt p.1
def aer(gt:Gt):Bool:=(lO gt (ee 5)).any λl=>mt CE.isStrOf l (tabS 5)
def lX(gt:Gt):List Int:=((lO gt (ee 5)).getD []).map (·.hash)
theorem aeq(hk:k=3\/k=4)(e:sN (bu h P) k=true):∃kvs:List (Int×CE),(bF h P).DictOf (intKind prog w) (ee k) kvs/\vT (bF h P) (tabI k) kvs:=by obtain⟨l,q,e⟩:=cA e;refine aes q (aa e).1 (eq_of_beq (aa e).2) ?_;clear q e;rcases hk with rfl |rfl<;>decide
theorem ap9(e:aer (bu h P)=true)(hh:lX (bu h P)=(tabS 5).map λp=>hashStr w p.1):∃kvs:List (Str×CE),(bF h P).DictOf (strKind prog w) (ee 5) kvs/\vT (bF h P) (tabS 5) kvs:=by obtain⟨l,q,e⟩:=cA e;rw[lX,q] at hh;exact aes q e hh (by decide)
def hdB(gt:Gt)(cd:CE)(P:CF):Bool:=cd==.ref (dZ cd)&&(dZ cd !=P&&(gt (dZ cd)).any λo=>o.cls==.type "code"&&(lN o.data).any λvs=>[vs[11]?==some (.ref P),vs.getD 11 .none==.ref P,vs.getD 18 .none==.str (aqw (vs.getD 18 .none)) (ix (vs.getD 18 .none)),
 vs.getD 7 .none==.int (aeK (vs.getD 7 .none)) (ix (vs.getD 7 .none)),vs.getD 9 .none==.bool (aqr (vs.getD 9 .none)),vs.getD 10 .none==.int (aeK (vs.getD 10 .none)) (ix (vs.getD 10 .none))].all id)
theorem ah8{cd:CE}(e:hdB (bu h P) cd P=true):∃c,cd=.ref c/\CodeHd (bF h P) c P:=by have e2:=aa (aa e).2;obtain⟨o,ho,e3⟩:=cA e2.2;obtain⟨vs,hv,e4⟩:=cA (aa e3).2;have e4:=eb e4;exact(acd _ (eq_of_beq (aa e).1) o vs _ _ (iR _ _ _ _ _ (iN ho) (dy (eq_of_beq (aa e3).1) (qE hv) (eq_of_beq e4.1) (eq_of_beq e4.2.1) (eq_of_beq e4.2.2.1) (eq_of_beq e4.2.2.2.1) (bT (eq_of_beq e4.2.2.2.2.1) (eq_of_beq e4.2.2.2.2.2.1) (Fh.mp e2.1)))))
noncomputable def aaq(a:Arguments):Bool:=(a.posonlyargs.isEmpty&&a.args.isEmpty)&&((a.vararg.isNone&&a.kwonlyargs.isEmpty)&&((a.kw_defaults.isEmpty&&a.kwarg.isNone)&&a.defaults.isEmpty))
theorem afl{a:Arguments}(h:aaq a=true):a=⟨[],[],none,[],[],none,[]⟩:=by
 have h1:=aa (aa h).1;have h2:=aa (aa (aa h).2).1;have h3:=aa (aa (aa h).2).2;have e:a=⟨a.posonlyargs,a.args,a.vararg,a.kwonlyargs,a.kw_defaults,a.kwarg,a.defaults⟩:=by clear h h1 h2 h3;cases a;rfl
 rw[jh h1.1,jh h1.2,EA.mp h2.1,jh h2.2,jh (aa h3.1).1,EA.mp (aa h3.1).2,jh h3.2] at e;exact e
def adD(d:Ns):Bool:=((d.tag==9&&d.n==sO)&&(d.bn==sO&&aaq d.ar))&&((d.es.isEmpty&&d.o.isNone)&&(d.tp.isEmpty&&d.ts.isNone))
theorem anP{s:Stmt}(h:adD (ag s)=true):s=.FunctionDef sO ⟨[],[],none,[],[],none,[]⟩ (ag s).x [] none [] (ag s).sc none sO (ag s).p:=by have h1:=aa (aa h).1;have h2:=aa h1.1;have h3:=aa h1.2;have h4:=aa (aa h).2;have h5:=aa h4.1;have h6:=aa h4.2;have:=iy h2.1 (by decide);change s=.FunctionDef (ag s).n (ag s).ar (ag s).x (ag s).es (ag s).o (ag s).tp (ag s).sc (ag s).ts (ag s).bn (ag s).p at this;rw[eq_of_beq h2.2,eq_of_beq h3.1,afl h3.2,DX.mp h5.1,EA.mp h5.2,DX.mp h6.1,EA.mp h6.2] at this;exact this
def aat(gt:Gt)(P:CF)(fd:FuncData)(body:List Stmt):Bool:=((!body.isEmpty&& !body.tail.isEmpty)&&adD (ag (bL body.tail)))&&
 ((lU 2 11 (hF fd.scope) (jH fd) fd.scope.names&&(qy (hF fd.scope) fd.scope.names qS (bL body)&&u8 (hF fd.scope) fd.scope.names (fY 2 iF) body.tail.tail))&&
 ((hdB gt fd.code P&&((hF fd.scope).contains (3,sO)&&(fd.scope.names.lookup sO==some .local&&(fd.scope.names.lookup sW==some .cell&&fd.scope.names.lookup sH==some .cell))))&&
 ((ag (bL body.tail)).sc.names==fw&&((ag (bL body.tail)).sc.kind==.function&&(!(ag (bL body.tail)).sc.isGenerator&&(!(ag (bL body.tail)).sc.isCoroutine&&u8 [(0,sW),(1,sH)] fw ig (ag (bL body.tail)).x))))))
def acq(e:CJ):Bool:=((view e).tag==5&&(view e).bo==.And)&&(kU (view e).fs&&(fX (dM (view e).fs)&&dO (cW 30) (view (dM (view e).fs)).a))
theorem aiX(h:acq e=true):e=.BoolOp .And [hd (view e).fs,.Call (.Name (cW 30) (view (view (dM (view e).fs)).a).p) (view (dM (view e).fs)).fs [] (view (dM (view e).fs)).p] (view e).p:=by have h1:=aa (aa h).1;have h2:=aa (aa h).2;have h3:=aa h2.2;have e1:=gD h3.1 (eM h3.2);rw[<-e1,<-mE h2.1];exact qI h1.1 h1.2
def aau(fd:FuncData)(body:List Stmt):Bool:=(u8 (hF fd.scope) fd.scope.names (eS 8 lx) (body.take 8)&&lU 1 10 (hF fd.scope) (jH fd) fd.scope.names)&&((oH (body.drop 8)&&((ag (bL (body.drop 8))).tag==3&&(ag (bL (body.drop 8))).o.isSome))&&
 (acq ((ag (bL (body.drop 8))).o.getD default)&&(bD (hF fd.scope) fd.scope.names kX (hd (view ((ag (bL (body.drop 8))).o.getD default)).fs)&&(uQ (hF fd.scope) fd.scope.names jU (view (dM (view ((ag (bL (body.drop 8))).o.getD default)).fs)).fs&&glob? fd.scope.names (cW 30)))))
section
theorem afs(e:iK (bu h P) (bK 31) aau=true):xP (bF h P):=by obtain⟨fd,body,D,hc,hf⟩:=lS e;have h1:=aa (aa hf).1;have h2:=aa (aa hf).2;have h3:=aa h2.1;have h4:=aa h3.2;have h5:=aa h2.2;have h6:=aa h5.2;have h7:=aa h6.2;have hb:=(Lq 8 body).symm.trans (CN (body.take 8++·) ((r8 h3.1).trans (CN (λs=>[s]) ((abG h4.1 h4.2).trans (CN (λe=>Stmt.Return (some e) (ag (bL (body.drop 8))).p) (aiX h5.1))))));exact⟨fd,_,_,_,_,_,_,_,_,_,hb▸D,hc,qZ h1.2,ud _ _ _ _ h1.1,bG _ _ _ _ h6.1,tZ _ _ _ _ h7.1,h7.2⟩
theorem afr(e:iK (bu h P) (bK 30) (aat (bu h P) P)=true)(hb:∃g,(bF h P).Ns Dm g/\(bF h P).BuiltinsAt g P):wZ (bF h P) P:=by obtain⟨fd,body,D,hc,hf⟩:=lS e;have a1:=aa (aa hf).1;have a2:=aa a1.1;have a3:=aa (aa hf).2;have a4:=aa a3.1;have a5:=aa a4.2;have a6:=aa a3.2;have a7:=aa a6.1;have a8:=aa a7.2;have a9:=aa a8.2;have a10:=aa a9.2;have a11:=aa a6.2;have a12:=aa a11.2;have a13:=aa a12.2;have a14:=aa a13.2;obtain⟨c,wm,hd⟩:=ah8 a7.1;have hb2:=(ng a2.1).trans (CN (bL body::·) ((ng a2.2).trans (CN (·::body.tail.tail) (anP a1.2))));exact⟨(dU fd _ _ _ _ _ (ce _ _ c (hb2▸D) hc (qZ a4.1) (dy (aa5 _ _ _ _ a5.1) (ud _ _ _ _ a5.2) wm hd (by simpa using a8.1) (eq_of_beq a9.1) (dy (eq_of_beq a10.1) (eq_of_beq a10.2) (eq_of_beq a11.1) (eq_of_beq a12.1) (rN a13.1) (rN a14.1) (ud _ _ _ _ a14.2))))),hb⟩
def aep(h:CL)(P:CF):Bool:=(h.get? P).any λo=>[o.cls==.none,o.dict.isNone,o.slots.isEmpty,(lN o.data).any (·.isEmpty)].all id
theorem ap8(e:aep h P=true):h.get? P=some (tabObj #[]):=by obtain⟨o,ho,e⟩:=cA e;have e:=eb e;obtain⟨vs,hv,e5⟩:=cA e.2.2.2.1;have e1:o=⟨o.cls,o.dict,o.data,o.slots⟩:=rfl;rw[eq_of_beq e.1,EA.mp e.2.1,IG.mp e.2.2.1,qE hv,IG.mp e5] at e1;exact ho.trans (CN some e1)
def se(h:CL):CF:=((h.get? (bK 30)).bind λo=>(qF o.data).bind λfd=>(h.get? (dZ fd.code)).bind λo=>(lN o.data).bind λvs=>vs[11]?).elim 0 dZ
def chk(h:CL)(P:CF):List Bool:= [aep h P,(ab7 (bu h P) (h.nsMap Dm)).all id,kB (kh h P),(CS 2).all (acU (kh h P) (bu h P)),(CS 3).all (abV (kh h P) (bu h P)),
 (CS 42).all (qY (bu h P)),sN (bu h P) 3,sN (bu h P) 4,aer (bu h P),iK (bu h P) (bK 30) (aat (bu h P) P),iK (bu h P) (bK 31) aau,(h.get? sysModules).isSome,P !=sysModules]
structure wJ(w:CW)(h:CL)(P:CF):Prop where
 uD:ur Mc w (bF h P)
 Bm:wZ (bF h P) P
 a31:xP (bF h P)
 tab:h.get? P=some (tabObj #[])
end
theorem pk(k:∀b o,h.get? b=some o->h'.get? b=some o):(bF h P).StaysIn (bF h' P):=λa o e=>cP.mpr ⟨k _ _ (cP.mp e).1,(cP.mp e).2⟩
def biB(m b:Str->Option CE)(f:BI):Bool:=(m (dI f)).isNone&&b (dI f)==some (lE f)
noncomputable def abx:Data->Bool | .plain=>true |_=>false
theorem agJ(h:abx d=true):d=.plain:=by cases d<;>first |rfl |exact nomatch (h:false=true)
def bmB(gt:Gt)(m:Str->Option CE)(P:CF):Bool:=(m "__builtins__").any λv=>v==.ref (dZ v)&&([dZ v !=Ej,dZ v !=Dm,dZ v !=P].all id&&(gt (dZ v)).any λo=>o.cls==.type "module"&&(o.dict==some Ej&&abx o.data))
theorem afU{m:Str->Option CE}(e:bmB (bu h P) m P=true):(bF h P).BuiltinsAt m P:=by obtain⟨v,q,e⟩:=cA e;have e2:=aa (aa e).2;have e3:=eb e2.1;obtain⟨o,ho,e4⟩:=cA e2.2;have e5:=aa (aa e4).2;exact(dT (dZ v) o (q.trans (CN some (eq_of_beq (aa e).1))) (Fh.mp e3.1) (Fh.mp e3.2.1) (Fh.mp e3.2.2.1) (bY (iN ho) (eq_of_beq (aa e4).1) (eq_of_beq e5.1) (agJ e5.2)))
def qx(h:CL)(P:CF):Bool:= [(chk h P).all id,h.isNs Dm,h.isNs Ej,h.isNs cStatics,(h.nsMap cStatics "sys.recursionlimit").isNone,bmB (bu h P) (h.nsMap Dm) P,
 [BI.len,.int,.bytes,.list,.bytearray,.max,.min,.all,.isInt,.str,.range].all (biB (h.nsMap Dm) (h.nsMap Ej)),(h.nsMap Dm "zip").isNone,h.nsMap Ej "zip"==some (.type "zip"),(h.nsMap Dm "Exception").isNone,h.nsMap Ej "Exception"==some (.type "Exception")].all id
theorem aj3{m m':Str->Option CE}(x:h.Ns a m)(y:h.Ns a m'):m=m':=by obtain⟨o,es,ep,e1,e2,_,e3⟩:=x;obtain⟨o',Am,AS,f1,f2,_,f3⟩:=y;rw[e1] at f1;cases f1;rw[e2] at f2;cases f2;exact funext λz=>(e3 z).symm.trans (f3 z)
theorem oo{m:Str->Option CE}(t:h.get? P=some (tabObj #[]))(x:h.Ns a m):(bF h P).Ns a m:=by obtain⟨o,es,ep,e1,e2,e3⟩:=x;refine(bZ o es ep (cP.mpr ⟨e1,λq=>?_⟩) e2 e3);rw[q,t] at e1;cases e1;cases e2
theorem gi{P:Nat->Prop}(h:P n)(t:∀k,k<n->P k):∀k,k<n+1->P k:=λk hk=>(Nat.lt_or_eq_of_le (Eo hk)).elim (t k) λe=>e▸h
theorem rx{P:Nat->Prop}:∀k,k<0->P k:=λk hk=>CP hk (Eb k)
theorem ahZ{m:Str->Option CE}(g:pj (ab7 (bu h P) m)):∀k,k<6->∃cv,m (eG k)=some cv/\∀μ,VR (bF h P) μ (lV k) cv:=by
 refine gi ?_ (gi ?_ (gi ?_ (gi ?_ (gi ?_ (gi ?_ rx)))))
 ·exact(ae _ (iw g.2.2.2.2.2.1) (λμ=>.gd 5 (by decide)))
 ·exact(ae _ (iw g.2.2.2.2.1) (λμ=>.gd 4 (by decide)))
 ·exact(ae _ (iw g.2.2.2.1) (λμ=>.gd 3 (by decide)))
 ·exact ajL g.2.2.1
 ·obtain⟨v,q,e⟩:=cA g.2.1;exact(ae _ (q.trans (CN some (eq_of_beq e))) (λμ=>.int _ _))
 ·obtain⟨t,e⟩:=lH g.1;exact(ae _ e (λμ=>.bytes _ _ (by decide)))
theorem afK{m b:Str->Option CE}(d:([BI.len,.int,.bytes,.list,.bytearray,.max,.min,.all,.isInt,.str,.range].all (biB m b))=true)(f:BI):m (dI f)=none/\b (dI f)=some (lE f):=
 have h:=aa (C1.mp d f (by cases f<;>decide))
 ⟨EA.mp h.1,eq_of_beq h.2⟩
theorem aol(e:qx h P=true)(hh:lX (bu h P)=(tabS 5).map λp=>hashStr w p.1):wJ w h P:=by
 have d:=eb e;have c:=eb d.1;have g:=eb c.2.1;have t:=ap8 c.1;have nm:=oo t (IR d.2.1);refine⟨⟨(dT (h.nsMap Dm) (h.nsMap Ej) nm (oo t (IR d.2.2.1)) (λk hk=>ahZ g k (Ew hk)) (λk np nv bd hf hk=>?_) (dy ?_ ?_ (afK d.2.2.2.2.2.2.1) (EA.mp d.2.2.2.2.2.2.2.1) (eq_of_beq d.2.2.2.2.2.2.2.2.1) (EA.mp d.2.2.2.2.2.2.2.2.2.1) (eq_of_beq d.2.2.2.2.2.2.2.2.2.2.1))),
  (ae _ (oo t (IR d.2.2.2.1)) (EA.mp d.2.2.2.2.1)),?_,(ae (kh h P) acn (aiO c.2.2.1)),(aI (kh h P) acn (λk hk=>ajQ (jg c.2.2.2.1 (Ew hk))) (λk hk=>ahl (jg c.2.2.2.2.1 (Ew hk)))),λk np nv bd hf q1 q2 q3=>ahB c.2.2.2.2.2.1 hf q1 q2 q3,λk hk=>?_,ap9 c.2.2.2.2.2.2.2.2.1 hh⟩,
  afr c.2.2.2.2.2.2.2.2.2.1 (ae _ nm (afU d.2.2.2.2.2.1)),afs c.2.2.2.2.2.2.2.2.2.2.1,t⟩
 ·have:=jg g.2.2.2.2.2.2.1 hk;rw[hf] at this;exact iw this
 ·exact λk hk=>gi (P:=λk=>h.nsMap Dm (gF k)=some (.ref (bO k))) (iw g.2.2.2.2.2.2.2.2.1) (gi (iw g.2.2.2.2.2.2.2.1) rx) k (Ew hk)
 ·exact λk hk=>gi (P:=λk=>h.nsMap Dm (cV k)=some (.ref (aT k))) (iw g.2.2.2.2.2.2.2.2.2.2.2.1) (gi (iw g.2.2.2.2.2.2.2.2.2.2.1) (gi (iw g.2.2.2.2.2.2.2.2.2.1) rx)) k (Ew hk)
 ·obtain⟨o,ho⟩:=FR.mp c.2.2.2.2.2.2.2.2.2.2.2.1;exact⟨o,cP.mpr ⟨ho,λq=>Fh.mp c.2.2.2.2.2.2.2.2.2.2.2.2.1 q.symm⟩⟩
 ·rcases hk with rfl |rfl
  ·exact aeq (.inl rfl) c.2.2.2.2.2.2.1
  ·exact aeq (.inr rfl) c.2.2.2.2.2.2.2.1
theorem xP.mono(D:xP B)(h:B.StaysIn B'):xP B':=by refine o_eeeeee D.ex λfd a zr args ps vis=>r_eeeea λnp cp bp rp D r=>?_;exact⟨fd,a,zr,args,ps,vis,np,cp,bp,rp,D.mono h,r⟩
theorem wJ.mono(R:wJ w h P)(k:∀b o,h.get? b=some o->h'.get? b=some o):wJ w h' P:=⟨R.uD.mono (pk k),R.Bm.mono (pk k),R.a31.mono (pk k),k _ _ R.tab⟩
section
set_option maxRecDepth 1000000
noncomputable abbrev pw:Program:=Mc
def aek(P:Params)(os:OsState):SharedT:=⟨aqo (EB P),11,(EB P).life,Gr [],HB,HC,os⟩
def qv:Program:=PySem.W.view pw [49]
noncomputable def rv:List Str:=(["_wall","PressError","MarkerError","CutError","RangeError","COUNTS","Plane","Picture","kept_in","greatest_sample","same_plane","same_picture","check_plane","check_picture","planes_of","samples_of","read_octets","write_octets","BLANKS","MOST_FIGURES","skip_blanks","next_word","number_of","precision_of","check_sides","KINDS","MODELS","NAMES","read_told_head","read_map","write_map","_law_bucket","_law_ladle","_law_gap","_law_picture","_law_words","_law_head","_law_samples","_law_refused","_law_cut_due","_law_values_right","_law_is_refused","_law_others_right"]:List String).map Ei
noncomputable def xt:CI->Bool:=λZ=>true
def yf(s:CI):Bool×List Int:=(qx s.heap (se s.heap),lX (bu s.heap (se s.heap)))
def ya(w:CW):Bool×List Int:=(true,(tabS 5).map λp=>hashStr w p.1)
noncomputable def cN(P:Params)(s:CI):=(staticsOk (importedModules pw.main.body) (EB P) s.heap&&namesBound pw s.heap&&gensDone s&&laidKept (EB P) s.heap,Nx qv rv (importedModules pw.main.body) xt true s,yf s)
def adT(w:CW)(os:OsState):Option SharedT:=jt (Mq 11 (some (.ref 6))) (Mn (Mo Mp) pw w) 3000 (aek w.params os) (topStub pw)
def pA(w:CW):Prop:=∀os:OsState,(adT w os).map (λs=>cN w.params s.abs)=some (true,openGood qv rv,ya w)
theorem aoB:∀w:CW,pA (w.withFollow "special-get-raises" false):=λw os=>by kernel_rfl
theorem aoD:∀w:CW,pA (w.withFollow "special-get-raises" true):=λw os=>by kernel_rfl
theorem ran(w:CW):pA w:=byRow2 "special-get-raises" aoB aoD w
theorem apQ(P:Params)(os:OsState):(aek P os).abs=⟨EB P,Gr [],HB,HC,os⟩:=by kernel_rfl
theorem afY(P:Params):((EB P).isNs Dm&&(Gr []:Array GenState).size==0,(EB P).objs.size,(EB P).nsMap Dm "__annotations__")=(true,11,some (.ref 6)):=by kernel_rfl
theorem afX(w:CW):(fencedOpening treeTable pw w 3000).map (λs=>(s.heap,s.gens,s.drawn,s.toks))=some (EB w.params,Gr [],HB,HC):=boot_open (p:=pw) (N:=3000) (by kernel_rfl) (by decide) (λs=>by kernel_rfl) w
theorem left:LeftO pw qv rv xt yf ya 3000:=λw=>by
 (obtain⟨zq0,e,e'⟩:=Es.mp (afX w);obtain⟨h,gs,d,k,os⟩:=zq0);obtain⟨rfl,rfl,rfl,rfl⟩:h=EB w.params/\gs=Gr []/\d=HB/\k=HC:=by simpa using e'
 obtain⟨z1,z2,z3⟩:_/\_/\_:=by simpa only[Ix] using afY w.params
 obtain⟨s,r,l⟩:=Es.mp (ran w os);unfold adT at r;rw[<-ah0] at r;have r:=ah2 r;rw[apQ] at r;unfold cN at l;rw[<-Nv] at l;obtain⟨l1,l2,l3⟩:_/\_/\_:=by simpa only[Ix] using l
 have t:topFrom treeTable pw w 3000 ⟨EB w.params,Gr [],HB,HC,os⟩=some s.abs:=by
  unfold topFrom;dsimp only;rw[z1,z2,z3,r];show(match staticsOk (importedModules pw.main.body) (EB w.params) s.abs.heap&&namesBound pw s.abs.heap&&gensDone s.abs&&laidKept (EB w.params) s.abs.heap with |true=>_ |false=>_)=_
  rw[l1]
 unfold openEnds;rw[e,L9,t];exact CN some (JD l2 l3)
end
section
set_option maxRecDepth 1000000
noncomputable abbrev ey:OpenLaw:=No
theorem nr{a:Bool}{l:List Str}{b:List Stmt}(h:a=false)(e:l=[])(k:Fast.tw8326940854005059898 {strict:=false,foot:=none} b=true):Fast.tw8326940854005059898 {strict:=a,foot:=none,bare:=l} b=true:=by subst h e;exact k
theorem apg:ey.wellSaid=true:=by
 rw[Fast.te9446332074065402090]
 repeat' (first |with_reducible refine look_both ?_ ?_ |(first |delta Fast.tw9446332074065402090 |delta Fast.tw17960256430627541270 |delta Fast.tw2436336058641802641 |delta Fast.tw12908688711261696721);try dsimp only)
 all_goals first |(with_reducible refine nr (by kernel_rfl) (by kernel_rfl) ?_;decide+kernel) |decide+kernel
theorem akd:(chainsOk qv&&opensWell ey.row.prog&&(frees ey.row.toRowW&&ey.row.within.isEmpty))=true:=by decide+kernel
theorem agL:(defOf qv ey.row.name).isSome=true:=by decide+kernel
theorem agM:ey.row.prog.theDef ey.row.name=(defOf qv ey.row.name).map λx=>(x.1.params,x.1.body,x.1.scope):=by kernel_rfl
theorem agN:((defOf qv ey.row.name).map λx=>kwWritten? x.1.params.kwonlyargs x.1.params.kw_defaults)=(defOf qv ey.row.name).map λx=>some x.2:=by kernel_rfl
theorem kept:ey.row.toRowW.promised:=(ae ([.list []]) (by decide+kernel) (by decide+kernel))
theorem bare:ey.row.prog.bare:=(gN rfl rfl rfl rfl rfl (by decide+kernel))
def YPm(w:CW)(h:CL):Prop:=∃h0 P,qx h0 P=true/\lX (bu h0 P)=((tabS 5).map λp=>hashStr w p.1)/\∀b o,h0.get? b=some o->h.get? b=some o
theorem aiC{R:WRecords}{cl:Str->Option CF}:∀{tA:List CE}{as:List CF},ReadsAllW R cl h tA (ns.map .int) as->IntsAre tA ns:=by
 induction ns with
 |nil=>exact λr=>by rw[(MO r).1];exact .nil
 |cons n ns ih=>intro tA as r;obtain⟨v,vs,a,b,e,_,r1,r2⟩:=MN r;obtain⟨t,e1,_⟩:=readsW_int_inv r1;subst e e1;exact .cons _ _ (ih r2)
theorem aof{args:List WData}(e:ey.row.toRowW.claim.pre args=true):∃ns:List Int,args=[.list (ns.map .int)]/\ns.length<=63:=by
 obtain⟨e1,e2⟩:=pre_splitW e;obtain⟨d,r,rfl,h1,h2⟩:=hasAllW_cons e1;obtain rfl:=hasAllW_nil h2;obtain⟨xs,rfl,h3⟩:=hasW_list h1;obtain⟨ns,rfl⟩:=items_int h3;refine(ae ns rfl ?_)
 by_cases hc:ns.length<=63
 ·exact hc
 ·exfalso;have e3:(match(match(match Option.map FT (less? (HA 63) (HA ((ns.map HA).length:Int))) with |some (FT b)=>some (FT !b) |_=>none) with
    |some (FT false)=>some (FT false) |some (FT true)=>some (FT true) |_=>none) with |some (FT true)=>true |_=>false)=true:=e2
  rw[List.length_map] at e3;have x9:decide ((63:Int)<(ns.length:Int))=true:=Db (om0 hc);have e4:less? (HA 63) (HA (ns.length:Int))=some true:=by show some (decide ((63:Int)<(ns.length:Int)))=some true;rw[x9]
  rw[e4] at e3;cases e3
theorem aq9(PL:∀ns:List Int,ns.length<=63->AM 20 (.tX ns) []):ey.Holds:=by
 refine holds_law apg λk1=>?_;obtain⟨⟨d,Co⟩,yq⟩:=FR.mp agL;have hp:=agM;have hk:=agN;rw[yq] at hp hk;refine anS (YP:=YPm) left (λw s e=>?_) (λw h h' y k=>?_) yq hp (C6 hk) rfl k1 akd bare kept λw xH tz mg mb G Y a ha args vs as xX yv L=>?_
 ·have e1:=CN Prod.fst e;have e2:=CN Prod.snd e;exact(ax s.heap (se s.heap) e1 e2 (λZ Z x=>x))
 ·obtain⟨h0,P,y1,y2,y3⟩:=y;exact(ax h0 P y1 y2 (λb o x=>k _ _ (y3 _ _ x)))
 obtain⟨h0,P,y1,y2,y3⟩:=Y;have R0:=aol (w:=w) y1 y2;have R:=R0.mono y3;obtain⟨ns,rfl,hl⟩:=aof xX;have A5:=L.reads;obtain⟨v,vs',as1,as2,e1,-,r1,r2⟩:=MN A5;obtain⟨aL,o,ws,n,as3,e3,g1,g2,g3,g4,-⟩:=readsW_list_open r1;have e2:=(MO r2).1;clear A5 r1 r2;subst e3;subst e2;subst e1;have hi:=aiC g4;have uu:aL≠P:=λq=>by rw[q,R.tab] at g1;cases g1;cases g3
 have asL:(bF tz.heap P).IsList aL (Dg ws.toList):=(lY o (cP.mpr ⟨g1,uu⟩) g2 n (by rw[g3]));have hv:tK (bF tz.heap P) [] [.tX ns] [.ref aL]:=.cons (.tX ns aL ws.toList asL hi (by rw[dN];exact om1 hl)) .nil;obtain⟨gm,_,q1,_,_,q2,_⟩:=(R.uD.ns);obtain rfl:mg=gm:=aj3 (oo R.tab G.T.g) q1;have ha2:=q2 31 _ _ _ rfl (by decide);have asN:ey.row.name=cW 31:=rfl;rw[asN,ha2] at ha;obtain rfl:bK 31=a:=by cases ha;rfl
 let c0:tN:=⟨pw,w,λb o=>b=P/\o=tabObj #[],[],⟨λZ Z Z=>.bad,0,false⟩⟩
 have I0:Inv pw w (bF tz.heap P) c0.U [] [] tz.heap:=⟨λb o e=>(cP.mp e).1,λb o hu=>by obtain⟨rfl,rfl⟩:=hu;exact(fu (oV λq=>q rfl) (λhm=>nomatch hm) #[] R.tab (λZ=>rfl)),Il,(λb hb=>nomatch hb),rfl,λi b o e=>by simp at e⟩
 have hS:gA callerA c0.U c0.fs:=⟨rfl,λenv he=>nomatch he⟩
 refine kZ (N31 (c:=c0) (n:=20) (P:=P) hS (by decide) (by decide) rfl I0 R.uD R.a31 R.Bm ⟨rfl,rfl⟩ hv (PL ns hl) ⟨19,rfl⟩ λh' t' st pt=>(ae _ rfl ?_));obtain⟨ps,A3⟩:=pt;refine(bY (.inl (ce (.bool true) (.bool true) [] rfl (λZ=>rfl) (.bool _) (bE ?_ (λZ=>⟨Il,(λb hb=>nomatch hb)⟩)))) ⟨λb o e=>?_,λb o e=>?_⟩ rfl ?_)
 ·kernel_rfl
 ·by_cases q:b=P
  ·subst q;rw[R.tab] at e;cases e;refine o_eeeeee R.Bm.ex λZ Z Z Z Z Z=>r_eeeaaa λZ Z cc Z Z Z=>r_aaaa λZ Z Z C Z=>?_;(revert C;refine r_eeeeee λoc vs Z Z Z Z=>r_eeeaaa λZ Z Z x1 x2 x3=>r_a λx4 Z=>?_);exact .inr (.inl (aik (ce cc oc vs ((cP.mp x1).1) x2 x3 x4) rfl #[] ps rfl (by rw[Array.empty_append];exact A3)))
  ·exact .inl (st _ _ (cP.mpr ⟨e,q⟩))
 ·by_cases q:b=P
  ·subst q;exact⟨_,A3⟩
  ·exact⟨o,st _ _ (cP.mpr ⟨e,q⟩)⟩
 ·exact AllBare.of_eq L.gens
end
namespace L
variable {H H1 H2 H' l:AH}{p n k d w h q i j b lo s sp rp u N np nv:Nat}{ρ:aB}{c:UInt8}{v ug a2 a4 a1 a3 a5 a7:AV}{f:Nat->Nat->Nat->Nat}{xs vs ps:List AV}{r:Bool}{m:Str}{t:R AV}{Γ:Ctx}{x y z:Int}{fl:List Nat}{α β:Type}{E:Nat->AH->Prop}{a e it:PE}{Q:Fl->AH->Prop}{bd:tW}
section
variable {m:Nat}{H3 H4:AH}{b c i:PE}{es:ui}{x y z:AV}
theorem X1{r:R α}{f:α->AH->R β}{t:R β}{w:α}(h:r=.ok w H1)(k:f w H1=t):r.bind f=t:=by rw[h];exact k
theorem X2{r:R α}{f:α->AH->R β}(h:r=.exc j H1):r.bind f=.exc j H1:=by rw[h];rfl
noncomputable def okV:AV->Bool
 | .undef=>false
 | .fn _=>false
 |_=>true
theorem Xv(h:ρ[j]?=some v)(h1:okV v=true):ev Γ (.var j) m ρ H=.ok v H:=by rw[E1.var];rw[h];clear h;cases v<;>first |rfl |cases h1
theorem am{o:zt}(h1:ev Γ a m ρ H=.ok x H1)(h2:ev Γ b m ρ H1=.ok y H2)(h3:dc o x y H2=.ok z H3):ev Γ (.bin o a b) m ρ H=.ok z H3:=by rw[E1.bin];exact X1 h1 (X1 h2 h3)
theorem aw{o:yG}(h1:ev Γ a m ρ H=.ok x H1)(h2:ev Γ b m ρ H1=.ok y H2)(h3:bj H2 o x y=some r):ev Γ (.cmp a o b) m ρ H=.ok (.bool r) H2:=by rw[E1.cmp];exact X1 h1 (X1 h2 (by rw[h3];rfl))
theorem aR(h1:ev Γ a m ρ H=.ok x H1)(h2:ev Γ i m ρ H1=.ok y H2)(h3:eJ H2 x y=some z):ev Γ (.idx a i) m ρ H=.ok z H2:=by rw[E1.idx];exact X1 h1 (X1 h2 (by rw[h3];rfl))
theorem ay(h1:ev Γ a m ρ H=.ok x H1)(h3:lv x n=some z):ev Γ (.attr a n) m ρ H=.ok z H1:=by rw[E1.attr];exact X1 h1 (by rw[h3];rfl)
theorem ad(h1:ev Γ a m ρ H=.ok x H1)(h2:uj Γ es m ρ H1=.ok vs H2):uj Γ (.cons a es) m ρ H=.ok (x::vs) H2:=by rw[E2.cons];exact X1 h1 (X1 h2 rfl)
theorem aj:uj Γ .nil m ρ H=.ok [] H:=rfl
theorem fR{t:R AV}(h1:uj Γ es m ρ H=.ok vs H1)(h2:Γ.C k vs H1=t):ev Γ (.call k es) m ρ H=t:=by rw[E1.call];exact X1 h1 h2
theorem aM{f:BI}{t:R AV}(hd:Γ.hd=false)(h1:uj Γ es m ρ H=.ok vs H1)(h2:cT H1 f vs=t):ev Γ (.bi f es) m ρ H=t:=by rw[E1.bi];rw[hd];exact X1 h1 h2
theorem cS{f:MT}{t:R AV}(hd:Γ.hd=false)(h0:ev Γ a m ρ H=.ok x H1)(hk:l9 H1 f x=true)(h1:uj Γ es m ρ H1=.ok vs H2)(h2:dX H2 f x vs=t):ev Γ (.tT f a es) m ρ H=t:=by rw[E1.tT];rw[hd];exact X1 h0 (by rw[hk];exact X1 h1 h2)
theorem bB(h1:uj Γ es m ρ H=.ok vs H1)(h:vs.length<=al):ev Γ (.list es) m ρ H=.ok (.ref H1.length) (H1++[.list vs]):=by rw[E1.list];refine X1 h1 ?_;unfold cn;exact CM h
theorem cq(h1:uj Γ es m ρ H=.ok vs H1):ev Γ (.tup es) m ρ H=.ok (.tup vs) H1:=by rw[E1.tup];exact X1 h1 rfl
theorem aam{t:R AV}(h:ev Γ c m ρ H=.ok (.bool r) H1)(k:(if r=true then ev Γ a m ρ H1 else ev Γ b m ρ H1)=t):ev Γ (.vd c a b) m ρ H=t:=by rw[E1.vd];exact X1 h k
theorem jR{t:R AV}(h:ev Γ c m ρ H=.ok (.bool true) H1)(k:ev Γ a m ρ H1=t):ev Γ (.vd c a b) m ρ H=t:=aam h k
theorem jQ{t:R AV}(h:ev Γ c m ρ H=.ok (.bool false) H1)(k:ev Γ b m ρ H1=t):ev Γ (.vd c a b) m ρ H=t:=aam h k
theorem iB(h:ev Γ c m ρ H=.ok (.bool r) H1):ev Γ (.not c) m ρ H=.ok (.bool (!r)) H1:=by rw[E1.not];exact X1 h rfl
theorem aal{t:R AV}(h:ev Γ a m ρ H=.ok (.bool r) H1)(k:(if r=true then t9 Γ es m ρ H1 else .ok (.bool false) H1)=t):t9 Γ (.cons a es) m ρ H=t:=by rw[E3.cons];exact X1 h k
theorem Xor{t:R AV}(h:ev Γ a m ρ H=.ok (.bool r) H1)(k:(if r=true then .ok (.bool true) H1 else vt Γ es m ρ H1)=t):vt Γ (.cons a es) m ρ H=t:=by rw[E4.cons];exact X1 h k
theorem bV{t:R AV}(h:ev Γ a m ρ H=.ok (.bool true) H1)(k:t9 Γ es m ρ H1=t):t9 Γ (.cons a es) m ρ H=t:=aal h k
theorem eW(h:ev Γ a m ρ H=.ok (.bool false) H1):t9 Γ (.cons a es) m ρ H=.ok (.bool false) H1:=aal h rfl
theorem bx{t:R AV}(h:ev Γ a m ρ H=.ok (.bool false) H1)(k:vt Γ es m ρ H1=t):vt Γ (.cons a es) m ρ H=t:=Xor h k
theorem dm(h:ev Γ a m ρ H=.ok (.bool true) H1):vt Γ (.cons a es) m ρ H=.ok (.bool true) H1:=Xor h rfl
theorem gC:t9 Γ .nil m ρ H=.ok (.bool true) H:=rfl
theorem fS:vt Γ .nil m ρ H=.ok (.bool false) H:=rfl
theorem db{t:R AV}(h:t9 Γ es m ρ H=t):ev Γ (.band es) m ρ H=t:=by rw[E1.band];exact h
theorem bW{t:R AV}(h:vt Γ es m ρ H=t):ev Γ (.bor es) m ρ H=t:=by rw[E1.bor];exact h
theorem jP{o o':yG}{q:Bool}(h1:ev Γ a m ρ H=.ok x H1)(h2:ev Γ b m ρ H1=.ok y H2)(h3:bj H2 o x y=some r)(h4:ev Γ c m ρ H2=.ok z H3)(h5:bj H3 o' y z=some q)(e:H3=H2):
  ev Γ (.uK a o b o' c) m ρ H=.ok (.bool (r&&q)) H2:=by
 subst e;rw[E1.uK];refine X1 h1 (X1 h2 ?_);rw[h3]
 cases r with
 |true=>exact X1 h4 (by rw[h5];rfl)
 |false=>rfl
theorem fT{lo hi st:ui}{l u w:List AV}{t:R AV}(h1:ev Γ a m ρ H=.ok x H1)(h2:uj Γ lo m ρ H1=.ok l H1)(h3:uj Γ hi m ρ H1=.ok u H1)(h4:uj Γ st m ρ H1=.ok w H1)(h:dB H1 x l u w=t):ev Γ (.slice a lo hi st) m ρ H=t:=by rw[E1.slice];exact X1 h1 (X1 h2 (X1 h3 (X1 h4 h)))
theorem jf(hd:Γ.hd=false)(h1:uj Γ es m ρ H=.ok vs H1)(h:vs.length=3):ev Γ (.new k es) m ρ H=.ok (.inst k vs) H1:=by rw[E1.new];rw[hd];refine X1 h1 ?_;exact CM h
variable {s:PS}{p q:tW}{t:R Fl}
theorem Sn:CK Γ .nil ρ H=.ok (.next ρ) H:=rfl
theorem Sc(h:exec Γ s ρ H=.ok (.next ρ') H1)(k:CK Γ ss ρ' H1=t):CK Γ (.cons s ss) ρ H=t:=by rw[E6.cons];exact X1 h k
theorem Sr(h:exec Γ s ρ H=.ok (.ret v) H1):CK Γ (.cons s ss) ρ H=.ok (.ret v) H1:=by rw[E6.cons];exact X1 h rfl
theorem Se(h:exec Γ s ρ H=.exc k H1):CK Γ (.cons s ss) ρ H=.exc k H1:=by rw[E6.cons];exact X2 h
theorem aD(h:ev Γ a 4 ρ H=.ok v H1):exec Γ (.assign (.var j) a) ρ H=.ok (.next (ρ.set j v)) H1:=by rw[E5.assign];exact X1 h rfl
theorem aai{pt:PT}(h:ev Γ a 4 ρ H=.exc k H1):exec Γ (.assign pt a) ρ H=.exc k H1:=by rw[E5.assign];exact X2 h
theorem dF{js:List Nat}(hd:Γ.hd=false)(h:ev Γ a 4 ρ H=.ok v H1)(hb:bz H1 js false v ρ=some ρ'):exec Γ (.assign (.tup js) a) ρ H=.ok (.next ρ') H1:=by rw[E5.assign];refine X1 h ?_;dsimp only;rw[hd,hb];rfl
theorem lp(h:ev Γ a 4 ρ H=.ok v H1)(h1:ev Γ b 4 ρ H1=.ok x H2)(h2:ev Γ c 4 ρ H2=.ok y H3)(h3:gZ H3 x y v=some H4):exec Γ (.assign (.sub b c) a) ρ H=.ok (.next ρ) H4:=by rw[E5.assign];refine X1 h (X1 h1 (X1 h2 ?_));rw[h3]
theorem eV(h:ev Γ a 4 ρ H=.ok v H1)(hp:fB v=true):exec Γ (.expr a) ρ H=.ok (.next ρ) H1:=by rw[E5.expr];exact X1 h (CM hp)
theorem cR(h:ev Γ a 4 ρ H=.ok v H1):exec Γ (.ret a) ρ H=.ok (.ret v) H1:=by rw[E5.ret];exact X1 h rfl
theorem Sif(h:ev Γ a 4 ρ H=.ok (.bool r) H1)(k:(if r=true then CK Γ p ρ H1 else CK Γ q ρ H1)=t):exec Γ (.ifs a p q) ρ H=t:=by rw[E5.ifs];exact X1 h k
theorem d8(h:ev Γ a 4 ρ H=.ok (.bool true) H1)(k:CK Γ p ρ H1=t):exec Γ (.ifs a p q) ρ H=t:=Sif h k
theorem fN(h:ev Γ a 4 ρ H=.ok (.bool false) H1)(k:CK Γ q ρ H1=t):exec Γ (.ifs a p q) ρ H=t:=Sif h k
theorem fO(hd:Γ.hd=false):exec Γ (.raise k) ρ H=.exc k H:=by rw[E5.raise];rw[hd];rfl
end
def af(n:Nat):Ctx:=⟨run n,100000,false⟩
theorem dQ(f:dK k=some (np,nv,bd))(l:vs.length=np)(h:CK (af n) bd (vs++CR (nv-np) .undef) H=.ok (.ret v) H'):run (n+1) k vs H=.ok v H':=by rw[kJ,f];dsimp only;rw[CM l];exact X1 h rfl
theorem aoC(f:dK k=some (np,nv,bd))(l:vs.length=np)(h:CK (af n) bd (vs++CR (nv-np) .undef) H=.ok (.next ρ) H'):run (n+1) k vs H=.ok .none H':=by rw[kJ,f];dsimp only;rw[CM l];exact X1 h rfl
theorem gv(f:dK k=some (np,nv,bd))(l:vs.length=np)(h:CK (af n) bd (vs++CR (nv-np) .undef) H=.exc j H'):run (n+1) k vs H=.exc j H':=by rw[kJ,f];dsimp only;rw[CM l];exact X2 h
def Bk(b:Nat)(H:AH):Prop:=∃s t,H[b]?=some (.list [.int s,.int t])
theorem bq(h:H[p]?=some (.list xs)):az H p=some xs:=by unfold az;rw[h]
theorem ip{i:Int}(h:H[p]?=some (.list xs)):eJ H (.ref p) (.int i)=jy xs i:=by show aJ none (az H p) _=_;rw[bq h];rfl
theorem cD{o:AO}(h:H[p]?=some o):p<H.length:=(List.getElem?_eq_some_iff.mp h).1
theorem sL{i:Int}(h:H[p]?=some (.list xs))(h0:0<=i/\i<xs.length):gZ H (.ref p) (.int i) v=some (H.set p (.list (xs.set i.toNat v))):=by show aJ none (az H p) _=_;rw[bq h];exact CM h0
theorem mF(h:0<y/\y<4294967296):dc .mod (.int x) (.int y) H=.ok (.int (x.fmod y)) H:=CM h
theorem pf(h:0<y/\y<1073741824):dc .fdiv (.int x) (.int y) H=.ok (.int (x.fdiv y)) H:=CM h
theorem fH(h:x.natAbs<cI\/y.natAbs<cI):dc .mul (.int x) (.int y) H=.ok (.int (x*y)) H:=CM h
theorem Xi{m:Nat}{i:Int}:ev Γ (.tm i) m ρ H=.ok (.int i) H:=rfl
theorem eY(h:decide (y<x)=r):bj H .gt (.int x) (.int y)=some r:=by rw[<-h];rfl
theorem aiW{top:Int}(h:Bk b H)(h1:0<top)(h2:top<1073741824):
  ∃(d:Nat)(s' t':Int),(d:Int)<top/\run (n+1) 20 [.ref b,.int top] H=.ok (.int d) (H.set b (.list [.int s',.int t'])):=by
 obtain⟨s,t,h⟩:=h;have hb:=cD h;have fm:∀x:Int,∃d:Nat,(d:Int)<top/\x.fmod top=d:=λx=>by rw[GX _ (EQ h1)];obtain⟨d,hd⟩:=GV (Int.emod_nonneg x (HX h1));exact(ae d (by rw[<-hd];exact Kx _ h1) hd)
 by_cases hs:0<s
 ·obtain⟨d,d1,d2⟩:=fm s;refine(gc d (s.fdiv top) t d1 (dQ (np:=2) (nv:=3) (bd:=ly) rfl rfl ?_));show CK (af n) ly [.ref b,.int top,.undef] H=_;refine Sr (d8 (aw (aR (Xv rfl rfl) Xi (ip h)) Xi (eY (Db hs))) (Sc (aD (am (aR (Xv rfl rfl) Xi (ip h)) (Xv rfl rfl) (mF ⟨h1,by exact(Fp h2 (by decide))⟩))) (Sc (lp (am (aR (Xv rfl rfl) Xi (ip h)) (Xv rfl rfl) (pf ⟨h1,h2⟩)) (Xv rfl rfl) Xi (sL h (by simp))) (Sr (cR ?_)))));rw[<-d2];exact Xv rfl rfl
 ·obtain⟨d,d1,d2⟩:=fm (((t*16807+47).fmod 2147483647).fdiv 24);have e:(H.set b (AO.list [.int s,.int ((t*16807+47).fmod 2147483647)]))[b]?=some (.list [.int s,.int ((t*16807+47).fmod 2147483647)]):=Fa hb;refine(gc d s ((t*16807+47).fmod 2147483647) d1 (dQ (np:=2) (nv:=3) (bd:=ly) rfl rfl ?_));show CK (af n) ly [.ref b,.int top,.undef] H=_;refine Sc (fN (aw (aR (Xv rfl rfl) Xi (ip h)) Xi (eY (DD hs))) Sn) (Sc
   (lp (am (am (am (aR (Xv rfl rfl) Xi (ip h)) Xi (fH (.inr (by decide)))) Xi rfl) Xi (mF (by decide))) (Xv rfl rfl) Xi (sL h (by simp))) (Sr (cR (am (am (aR (Xv rfl rfl) Xi (ip e)) Xi (pf (by decide))) (Xv rfl rfl) ?_))))
  rw[<-d2];exact mF ⟨h1,by exact(Fp h2 (by decide))⟩
def bl(c:UInt8):Bool:=jX.any λk=>(k.toNat:Int)==c.toNat
def sk:Bool->List UInt8->List UInt8
 |_,[]=>[]
 |false,c::r=>if bl c then sk false r else if c=35 then sk true r else c::r
 |true,c::r=>if c=10 then sk false r else sk true r
def wd:List UInt8->List UInt8
 |[]=>[]
 |c::r=>if bl c||c==35 then [] else c::wd r
theorem oZ{r:List UInt8}:sk false (c::r)=if bl c then sk false r else if c=35 then sk true r else c::r:=rfl
theorem ad9{r:List UInt8}:sk true (c::r)=if c=10 then sk false r else sk true r:=rfl
theorem afS:bl 10=true:=by decide
theorem apq:∀l:List UInt8,sk true l=sk false (l.dropWhile (·!=10)):=by
 intro zi
 induction zi with
 |nil=>
 exact rfl
 |cons c r ih=>
 exact by
  rw[ad9,Jf]
  by_cases h:c=10
  ·subst h;rw[CM rfl,CQ (by decide),oZ,CM afS]
  ·rw[CQ h,CM (by simpa using h)];exact ih
theorem ii(h:decide (x<y)=r):bj H .lt (.int x) (.int y)=some r:=by rw[<-h];rfl
theorem jl(h:(x==y)= !r):bj H .ne (.int x) (.int y)=some r:=by show some (!(x==y))=_;rw[h,HQ]
theorem iH(h:(x==y)=r):bj H .eq (.int x) (.int y)=some r:=by rw[<-h];rfl
theorem rg{b:List UInt8}(h:b[i]?=some c):eJ H (.bytes b) (.int i)=some (.int c.toNat):=by show av none (0<=(i:Int)) ((b[(i:Int).toNat]?).map λc=>AV.int c.toNat)=_;unfold av;rw[CM (DU i),DW,h];rfl
theorem EO{b:List UInt8}:cT H .len [.bytes b]=.ok (.int b.length) H:=rfl
theorem W1{c:aB->AH->R AV}{f:aB->AH->R Fl}{t:R Fl}(h1:c ρ H=.ok (.bool true) H1)(h2:f ρ H1=.ok (.next ρ') H2)(h3:dR c f n ρ' H2=t):dR c f (n+1) ρ H=t:=by rw[E9.s];exact X1 h1 (X1 h2 h3)
theorem W0{c:aB->AH->R AV}{f:aB->AH->R Fl}(h1:c ρ H=.ok (.bool false) H1):dR c f (n+1) ρ H=.ok (.next ρ) H1:=by rw[E9.s];exact X1 h1 rfl
theorem mL{p:tW}{t:R Fl}(h:dR (λρ H=>ev Γ a 4 ρ H) (λρ H=>CK Γ p ρ H) Γ.wf ρ H=t):exec Γ (.uU a p) ρ H=t:=by rw[E5.uU];exact h
theorem qH{o l:List UInt8}(h:o.drop i=c::l):o[i]?=some c/\o.drop (i+1)=l/\i<o.length:=by
 have h1:(o.drop i)[0]?=some c:=by rw[h];rfl
 rw[Hi] at h1;refine⟨by simpa using h1,?_,(List.getElem?_eq_some_iff.mp (by simpa using h1)).1⟩;rw[<-Jg,h];rfl
theorem sY{k:UInt8}:((c.toNat:Int)==(k.toNat:Int))=(c==k):=by
 by_cases h:c=k
 ·subst h;simp
 ·have:c.toNat≠k.toNat:=λq=>h (JK.mp q);rw[EM h];exact EM λq=>this (KI q)
noncomputable def nd:PE:=.band (.cons (.cmp (.var 1) .lt (.bi .len (.cons (.var 0) .nil))) (.cons (.cmp (.idx (.var 0) (.var 1)) .ne (.tm 10)) .nil))
noncomputable def mC:tW:=.cons (.assign (.var 1) (.bin .add (.var 1) (.tm 1))) .nil
section
variable {o:List UInt8}
theorem km(h0:ρ[k]?=some (.bytes o))(h1:ρ[j]?=some (.int i)):ev (af n) (.cmp (.var j) .lt (.bi .len (.cons (.var k) .nil))) 4 ρ H=.ok (.bool (decide (i<o.length))) H:=aw (Xv h1 rfl) (aM rfl (ad (Xv h0 rfl) aj) EO) (ii (by simp))
theorem jV(h0:ρ[k]?=some (.bytes o))(h1:ρ[j]?=some (.int i))(h:o[i]?=some c):ev (af n) (.idx (.var k) (.var j)) 4 ρ H=.ok (.int c.toNat) H:=aR (Xv h0 rfl) (Xv h1 rfl) (rg h)
theorem acz:∀(l:List UInt8)(i k:Nat),o.drop i=l->i<=o.length->l.length<k->dR (λρ H=>ev (af n) nd 4 ρ H) (λρ H=>CK (af n) mC ρ H) k [.bytes o,.int i] H=
  .ok (.next [.bytes o,.int ((o.length-(l.dropWhile (·!=10)).length:Nat))]) H
 |[],i,0,h,hi,hk=>by cases hk
 |[],i,k+1,h,hi,hk=>by have e:i=o.length:=Hm hi (Jh.mp h);have:=W0 (n:=k) (f:=λρ H=>CK (af n) mC ρ H) (c:=λρ H=>ev (af n) nd 4 ρ H) (ρ:= [.bytes o,.int i]) (H:=H) (db (eW ((km rfl rfl).trans (by rw[DD (ot e)]))));rw[this,e];rfl
 |c::l,i,0,h,hi,hk=>by cases hk
 |c::l,i,k+1,h,hi,hk=>by
  obtain⟨h1,h2,h3⟩:=qH h;rw[Jf];have hl:=CN DO h;rw[Dj,Di] at hl;have e1:ev (af n) (.cmp (.var 1) .lt (.bi .len (.cons (.var 0) .nil))) 4 [.bytes o,.int i] H=.ok (.bool true) H:=(km rfl rfl).trans (by rw[Db h3])
  by_cases q:c=10
  ·clear h hk;subst q;rw[CQ (by decide)];rw[W0 (n:=k) (f:=λρ H=>CK (af n) mC ρ H) (c:=λρ H=>ev (af n) nd 4 ρ H) (db (bV e1 (eW (aw (jV rfl rfl h1) Xi (jl rfl)))))];rw[Di,show o.length-(l.length+1)=i by exact(hl▸L6 (CU h3))]
  ·rw[CM (by simpa using q)];refine W1 (db (bV e1 (bV (aw (jV rfl rfl h1) Xi (jl (r:=true) ?_)) gC))) (Sc (aD (am (Xv rfl rfl) Xi rfl)) Sn) (acz l (i+1) k h2 h3 (FM hk));exact(sY (k:=10)).trans (EM q)
noncomputable def nf:PE:=.band (.cons (.cmp (.var 1) .lt (.bi .len (.cons (.var 0) .nil))) (.cons (.bor (.cons (.cmp (.idx (.var 0) (.var 1)) .isin (.glob 0)) (.cons (.cmp (.idx (.var 0) (.var 1)) .eq (.tm 35)) .nil))) .nil))
def m5:tW:=.cons (.ifs (.cmp (.idx (.var 0) (.var 1)) .eq (.tm 35)) (.cons (.uU nd mC) .nil) mC) .nil
theorem abe:bj H .isin (.int c.toNat) (.bytes jX)=some (bl c):=by show av none (0<=(c.toNat:Int)/\(c.toNat:Int)<256) (some (bl c))=_;have:=c.toNat_lt;exact CM ⟨DU _,by omega⟩
theorem Xg{m:Nat}:ev (af n) (.glob k) m ρ H=.ok (lV k) H:=rfl
theorem abC{l:List UInt8}(h:l<:+o):o.drop (o.length-l.length)=l:=(List.suffix_iff_eq_drop.mp h).symm
theorem ap2{l:List UInt8}(h:o.drop i=l):l<:+o:=h▸KX i o
theorem ru(ho:o.length<100000):∀(m:Nat)(l:List UInt8)(i k:Nat),l.length<=m->o.drop i=l->i<=o.length->l.length<k->dR (λρ H=>ev (af n) nf 4 ρ H) (λρ H=>CK (af n) m5 ρ H) k [.bytes o,.int i] H=
  .ok (.next [.bytes o,.int ((o.length-(sk false l).length:Nat))]) H
 |m,[],i,0,_,h,hi,hk=>by cases hk
 |m,[],i,k+1,_,h,hi,hk=>by have e:i=o.length:=Hm hi (Jh.mp h);rw[W0 (n:=k) (f:=λρ H=>CK (af n) m5 ρ H) (c:=λρ H=>ev (af n) nf 4 ρ H) (ρ:= [.bytes o,.int i]) (H:=H) (db (eW ((km rfl rfl).trans (by rw[DD (ot e)]))))];rw[e];rfl
 |m,c::l,i,0,_,h,hi,hk=>by cases hk
 |0,c::l,i,k+1,hm,h,hi,hk=>by cases hm
 |m+1,c::l,i,k+1,hm,h,hi,hk=>by
  obtain⟨h1,h2,h3⟩:=qH h;have hl:=CN DO h;rw[Dj,Di] at hl;have e1:ev (af n) (.cmp (.var 1) .lt (.bi .len (.cons (.var 0) .nil))) 4 [.bytes o,.int i] H=.ok (.bool true) H:=(km rfl rfl).trans (by rw[Db h3]);have e2:ev (af n) (.cmp (.idx (.var 0) (.var 1)) .isin (.glob 0)) 4 [.bytes o,.int i] H=.ok (.bool (bl c)) H:=aw (jV rfl rfl h1) Xg abe;have e3:ev (af n) (.cmp (.idx (.var 0) (.var 1)) .eq (.tm 35)) 4 [.bytes o,.int i] H=.ok (.bool (c==35)) H:=aw (jV rfl rfl h1) Xi (iH (sY (k:=35)));rw[Di] at hm hk;rw[oZ]
  by_cases q:bl c=true
  ·rw[CM q];rw[q] at e2;have hn:(c==35)=false:=by
    cases zq:c==35 with
    |false=>rfl
    |true=>rw[eq_of_beq zq] at q;revert q;decide
   rw[hn] at e3;exact W1 (db (bV e1 (bV (bW (dm e2)) gC))) (Sc (fN e3 (Sc (aD (am (Xv rfl rfl) Xi rfl)) Sn)) Sn) (ru ho m l (i+1) k (Hn hm) h2 h3 (FM hk))
  ·rw[CQ q];rw[eq_false_of_ne_true q] at e2
   by_cases zq:c=35
   ·clear h1 q;subst zq;rw[CM rfl,apq];have s1:l.dropWhile (·!=10)<:+l:=List.dropWhile_suffix _;have s2:l.dropWhile (·!=10)<:+o:=s1.trans ((Hk 35 l).trans (ap2 h));have e4:=acz (n:=n) (H:=H) (35::l) i 100000 h hi (by rw[Di];exact akK ho h3 hl);rw[Jf,CM (by decide)] at e4;exact W1 (db (bV e1 (bV (bW (bx e2 (dm e3))) gC))) (Sc (d8 e3 (Sc (mL e4) Sn)) Sn) (ru ho m _ _ k (Nat.le_trans s1.length_le (Hn hm)) (abC s2) (DQ _ _) (Nat.lt_of_le_of_lt s1.length_le (FM hk)))
   ·rw[CQ zq];have hn:(c==35)=false:=EM zq;rw[hn] at e3;rw[W0 (n:=k) (f:=λρ H=>CK (af n) m5 ρ H) (c:=λρ H=>ev (af n) nf 4 ρ H) (db (bV e1 (eW (bW (bx e2 (bx e3 fS))))))];rw[Di,show o.length-(l.length+1)=i by exact(hl▸L6 (CU h3))]
def dg(o:List UInt8)(i:Nat):Nat:=o.length-(sk false (o.drop i)).length
theorem apu(ho:o.length<100000)(hi:i<=o.length):run (n+1) 11 [.bytes o,.int i] H=.ok (.int (dg o i)) H:=by refine dQ (np:=2) (nv:=2) (bd:=aaH) rfl rfl ?_;show CK (af n) (.cons (.uU nf m5) (.cons (.ret (.var 1)) .nil)) [.bytes o,.int i] H=_;exact Sc (mL (ru ho (o.drop i).length _ i 100000 (Nat.le_refl _) rfl hi (by rw[Dj];exact Nat.lt_of_le_of_lt (DQ ..) ho))) (Sr (cR (Xv rfl rfl)))
end
section
variable {o:List UInt8}
noncomputable def qA:PE:=.band (.cons (.cmp (.var 2) .lt (.bi .len (.cons (.var 0) .nil))) (.cons (.cmp (.idx (.var 0) (.var 2)) .uo (.glob 0)) (.cons (.cmp (.idx (.var 0) (.var 2)) .ne (.tm 35)) .nil)))
noncomputable def sJ:tW:=.cons (.assign (.var 2) (.bin .add (.var 2) (.tm 1))) .nil
theorem ago:bj H .uo (.int c.toNat) (.bytes jX)=some (!bl c):=by show(bj H .isin (.int c.toNat) (.bytes jX)).map (!·)=_;rw[abe];rfl
theorem acA{j:AV}:∀(l:List UInt8)(i k:Nat),o.drop i=l->i<=o.length->l.length<k->dR (λρ H=>ev (af n) qA 4 ρ H) (λρ H=>CK (af n) sJ ρ H) k [.bytes o,j,.int i] H=
  .ok (.next [.bytes o,j,.int ((i+(wd l).length:Nat))]) H
 |[],i,0,h,hi,hk=>by cases hk
 |[],i,k+1,h,hi,hk=>by have e:i=o.length:=Hm hi (Jh.mp h);rw[W0 (n:=k) (f:=λρ H=>CK (af n) sJ ρ H) (c:=λρ H=>ev (af n) qA 4 ρ H) (ρ:= [.bytes o,j,.int i]) (H:=H) (db (eW ((km rfl rfl).trans (by rw[DD (ot e)]))))];rfl
 |c::l,i,0,h,hi,hk=>by cases hk
 |c::l,i,k+1,h,hi,hk=>by
  obtain⟨h1,h2,h3⟩:=qH h;have e1:ev (af n) (.cmp (.var 2) .lt (.bi .len (.cons (.var 0) .nil))) 4 [.bytes o,j,.int i] H=.ok (.bool true) H:=(km rfl rfl).trans (by rw[Db h3]);have e2:ev (af n) (.cmp (.idx (.var 0) (.var 2)) .uo (.glob 0)) 4 [.bytes o,j,.int i] H=.ok (.bool (!bl c)) H:=aw (jV rfl rfl h1) Xg ago;have e3:ev (af n) (.cmp (.idx (.var 0) (.var 2)) .ne (.tm 35)) 4 [.bytes o,j,.int i] H=.ok (.bool (!(c==35))) H:=aw (jV rfl rfl h1) Xi (jl (by rw[HQ];exact sY (k:=35)));show _=R.ok (Fl.next [.bytes o,j,.int ((i+(if(bl c||c==35)=true then [] else c::wd l).length:Nat))]) H
  cases q:bl c with
  |true=>rw[q] at e2;exact W0 (db (bV e1 (eW e2)))
  |false=>
   rw[q] at e2
   cases zq:c==35 with
   |true=>rw[zq] at e3;exact W0 (db (bV e1 (bV e2 (eW e3))))
   |false=>rw[zq] at e3;refine(W1 (db (bV e1 (bV e2 (bV e3 gC)))) (Sc (aD (am (Xv rfl rfl) Xi rfl)) Sn) (acA l (i+1) k h2 h3 (FM hk))).trans ?_;rw[CQ (by simp),Di,C3,Ev 1]
theorem apv{b:List UInt8}{l u:Int}(h:cg l/\cg u):dB H (AV.bytes b) [AV.int l] [AV.int u] []=.ok (.bytes (cut b l.toNat u.toNat)) H:=by show av R.bad (cg l/\cg u) (R.ok (AV.bytes (cut b l.toNat u.toNat)) H)=_;unfold av;exact CM h
theorem ab0{o:List UInt8}(h:i<=o.length)(ho:o.length<100000):cg (i:Int):=⟨DU i,by unfold ji;exact ali h ho⟩
theorem kO{b:List UInt8}(hi:cg i)(hj:cg j):dB H (.bytes b) [.int i] [.int j] []=.ok (.bytes (cut b i j)) H:=(apv ⟨hi,hj⟩).trans (by rw[DW,DW])
theorem qu{b:List UInt8}:cT H .bytes [.bytes b]=.ok (.bytes b) H:=rfl
theorem Xo{m:Nat}(h:ev (af n) e m ρ H=.ok v H1):uj (af n) (.cons e .nil) m ρ H=.ok [v] H1:=ad h aj
theorem s7:∀l:List UInt8,wd l<+:l
 |[]=>Lk
 |c::r=>by
  show(if(bl c||c==35)=true then [] else c::wd r)<+:_
  split
  ·exact Lk
  ·exact List.cons_prefix_cons.mpr ⟨rfl,s7 r⟩
def nx(o:List UInt8)(i:Nat):List UInt8×Nat:=(wd (sk false (o.drop i)),dg o i+(wd (sk false (o.drop i))).length)
theorem mB:∀(b:Bool)(l:List UInt8),sk b l<:+l
 |b,[]=>by cases b<;>exact Lo _
 |false,c::r=>by
  rw[oZ]
  split
  ·exact(mB false r).trans (Hk _ _)
  ·split
   ·exact(mB true r).trans (Hk _ _)
   ·exact Lo _
 |true,c::r=>by
  rw[ad9]
  split
  ·exact(mB false r).trans (Hk _ _)
  ·exact(mB true r).trans (Hk _ _)
theorem oX:o.drop (dg o i)=sk false (o.drop i):=abC ((mB _ _).trans (KX _ _))
theorem sC:dg o i<=o.length:=DQ _ _
theorem rH{a:Nat}:((a:Int)==(b:Int))=(a==b):=by
 by_cases h:a=b
 ·subst h;simp
 ·rw[EM h];exact EM λq=>h (KI q)
theorem aqI(ho:o.length<100000):o.length-dg o i<100000:=by exact Nat.sub_lt_of_lt ho
theorem aqG:dg o i+(wd (sk false (o.drop i))).length<=o.length:=by have h:=(s7 (sk false (o.drop i))).length_le;have e:=CN DO (oX (o:=o) (i:=i));have:=sC (o:=o) (i:=i);rw[Dj] at e;exact alj h e this
theorem aqF:cut o (dg o i) (dg o i+(wd (sk false (o.drop i))).length)=wd (sk false (o.drop i)):=by unfold cut;rw[KY,oX,LC];exact(List.prefix_iff_eq_take.mp (s7 _)).symm
theorem W4(ho:o.length<100000)(hi:i<=o.length):exec (af (n+1)) (.assign (.var 1) (.call 11 (.cons (.var 0) (.cons (.var 1) .nil)))) [.bytes o,.int i,.undef] H=.ok (.next [.bytes o,.int (dg o i),.undef]) H:=aD (fR (ad (Xv rfl rfl) (ad (Xv rfl rfl) aj)) (apu ho hi))
theorem W5(ho:o.length<100000):exec (af (n+1)) (.uU qA sJ) [.bytes o,.int (dg o i),.int (dg o i)] H=.ok (.next [.bytes o,.int (dg o i),.int (nx o i).2]) H:=mL (acA (n:=n+1) (H:=H) (j:=.int (dg o i)) (sk false (o.drop i)) (dg o i) 100000 oX sC (by rw[<-oX,Dj];exact aqI ho))
theorem aqH(ho:o.length<100000)(hi:i<=o.length)(hw:(nx o i).1≠[]):run (n+2) 12 [.bytes o,.int i] H=.ok (.tup [.bytes (nx o i).1,.int (nx o i).2]) H:=by refine dQ (np:=2) (nv:=3) (bd:=lA) rfl rfl ?_;show CK (af (n+1)) lA [.bytes o,.int i,.undef] H=_;have hl:((nx o i).2==dg o i)=false:=EM λe=>hw (KZ (Nat.add_left_cancel (e.trans (Is _).symm)));have e:=kO (H:=H) (b:=o) (ab0 (sC (i:=i)) ho) (ab0 (aqG (i:=i)) ho);rw[aqF] at e;exact Sc (W4 ho hi) (Sc (aD (Xv rfl rfl)) (Sc (W5 ho) (Sc (fN (aw (Xv rfl rfl) (Xv rfl rfl) (iH (rH.trans hl))) Sn) (Sr (cR (cq (ad (aM rfl (Xo (fT (Xv rfl rfl) (Xo (Xv rfl rfl)) (Xo (Xv rfl rfl)) aj e)) qu) (Xo (Xv rfl rfl)))))))))
theorem td(ho:o.length<100000)(hi:i<=o.length)(hw:(nx o i).1=[]):run (n+2) 12 [.bytes o,.int i] H=.exc 1 H:=by
 refine gv (np:=2) (nv:=3) (bd:=lA) rfl rfl ?_;show CK (af (n+1)) lA [.bytes o,.int i,.undef] H=_;have hl:((nx o i).2==dg o i)=true:=by
  have:(nx o i).2=dg o i:=by show dg o i+(nx o i).1.length=_;rw[hw];rfl
  rw[this];exact DA _
 exact Sc (W4 ho hi) (Sc (aD (Xv rfl rfl)) (Sc (W5 ho) (Se (d8 (aw (Xv rfl rfl) (Xv rfl rfl) (iH (rH.trans hl))) (Se (fO rfl))))))
end
inductive W{α:Type}(r:R α)(Q:α->AH->Prop)(E:Nat->AH->Prop):Prop where
 |of {v:α} {H:AH} (h:r=.ok v H) (q:Q v H):W r Q E
 |xG {k:Nat} {H:AH} (h:r=.exc k H) (q:E k H):W r Q E
def bC:Nat->AH->Prop:=λZ Z=>False
section
variable {r:R α}{Q Q':α->AH->Prop}{E':Nat->AH->Prop}{v:α}
theorem W.bind{f:α->AH->R β}{P:β->AH->Prop}(h:W r (λv H=>W (f v H) P E) E):W (r.bind f) P E:=by
 cases h with
 |of h q=>subst h;exact q
 |xG h q=>subst h;exact .xG rfl q
theorem W.ok(h:W r Q bC):∃v H,r=.ok v H/\Q v H:=by
 cases h with
 |of h q=>exact(bR _ _ h q)
 |xG h q=>exact q.elim
theorem W.xc{F:AH->Prop}(h:W r (λZ Z=>False) (λj H=>j=k/\F H)):∃H,r=.exc k H/\F H:=by
 cases h with
 |of h q=>exact q.elim
 |xG h q=>obtain⟨rfl,q⟩:=q;exact(ae _ h q)
theorem W.mono(h:W r Q E)(q:∀v H,Q v H->Q' v H)(e:∀k H,E k H->E' k H):W r Q' E':=by
 cases h with
 |of h i=>exact .of h (q _ _ i)
 |xG h i=>exact .xG h (e _ _ i)
theorem W.eq{w:R α}(h:w=r)(i:W r Q E):W w Q E:=h▸i
end
structure Fr(b m:Nat)(H H':AH):Prop where
 le:H.length<=H'.length
 at':∀p,p<m->p≠b->H'[p]?=H[p]?
section
variable {b m p q:Nat}{o:AO}
theorem Fr.refl:Fr b m H H:=⟨Nat.le_refl _,λZ Z Z=>rfl⟩
theorem Fr.trans(f:Fr b m H H1)(g:Fr b m H1 H2):Fr b m H H2:=⟨Nat.le_trans f.le g.le,λp h e=>(g.at' p h e).trans (f.at' p h e)⟩
theorem Fr.app(h:m<=H.length):Fr b m H (H++l):=⟨by rw[List.length_append];exact Nat.le_add_right _ _,λp h1 Z=>Ee (Nat.lt_of_lt_of_le h1 h)⟩
theorem Fr.put(h:q=b\/m<=q):Fr b m H (H.set q o):=⟨by rw[Jn];exact Nat.le_refl _,λp h1 h2=>DN λe=>by
 subst e;rcases h with h |h
 ·exact h2 h
 ·exact LX h h1⟩
theorem Fr.get(f:Fr b H.length H H1)(hb:p≠b)(h:H[p]?=some o):H1[p]?=some o:=(f.at' p (cD h) hb).trans h
theorem Fr.gt(f:Fr b m H H1)(hm:p<m)(hb:p≠b)(h:H[p]?=some o):H1[p]?=some o:=(f.at' p hm hb).trans h
theorem Fr.less{m':Nat}(f:Fr b m H H1)(h:m'<=m):Fr b m' H H1:=⟨f.le,λp h1 h2=>f.at' p (Nat.lt_of_lt_of_le h1 h) h2⟩
theorem aH{o:AO}(h:H[p]?=some o):(H++l)[p]?=some o:=(Ee (cD h)).trans h
theorem aC:(H++[o])[H.length]?=some o:=Ga
theorem Bk.fr(h:Bk b H)(f:Fr p m H H1)(hm:b<m)(hb:b≠p):Bk b H1:=by obtain⟨s,t,h⟩:=h;exact(cK s t (f.gt hm hb h))
theorem Bk.app(h:Bk b H):Bk b (H++l):=by obtain⟨s,t,h⟩:=h;exact(cK s t (aH h))
theorem Bk.lt(h:Bk b H):b<H.length:=by obtain⟨s,t,h⟩:=h;exact cD h
theorem Bk.put(h:Bk b H)(n:q≠b):Bk b (H.set q o):=by obtain⟨s,t,h⟩:=h;exact(cK s t ((DN n).trans h))
theorem acr{o:AO}:(H.set q o).length=H.length:=Jn
end
section
variable {m:Nat}{H3:AH}{b c:PE}{es:ui}{v x y z:AV}{s:PS}{p q:tW}{t:List Nat}
theorem aK{w:R AV}(h1:uj (af n) es m ρ H=.ok vs H1)(h2:run n k vs H1=w):ev (af n) (.call k es) m ρ H=w:=fR h1 h2
theorem Xs{w:Str}:ev Γ (.tO w) m ρ H=.ok (.str w) H:=rfl
theorem Xy{w:List UInt8}:ev Γ (.tu w) m ρ H=.ok (.bytes w) H:=rfl
theorem Xb{w:Bool}:ev Γ (.un w) m ρ H=.ok (.bool w) H:=rfl
theorem mO:ev Γ .uR m ρ H=.ok (.ref H.length) (H++[.dict []]):=rfl
theorem pH{i:Int}(h:ev Γ a m ρ H=.ok (.int i) H1):ev Γ (.neg a) m ρ H=.ok (.int (-i)) H1:=by rw[E1.neg];exact X1 h rfl
theorem afd{w:R AV}(h:ev Γ a m ρ H=.ok x H1)(hp:nR x=true)(k:Γ.C 40 [x] H1=w):ev Γ (.most a) m ρ H=w:=by rw[E1.most];exact X1 h ((CM hp).trans k)
variable {Q:Fl->AH->Prop}
def KK(Γ:Ctx)(ss:tW)(Q:Fl->AH->Prop)(E:Nat->AH->Prop)(fl:Fl)(H:AH):Prop:=match fl with
 | .next ρ=>W (CK Γ ss ρ H) Q E
 | .ret v=>Q (.ret v) H
theorem gB(h:W (exec Γ s ρ H) (KK Γ ss Q E) E):W (CK Γ (.cons s ss) ρ H) Q E:=by
 rw[E6.cons];refine W.bind (h.mono (λfl H h=>?_) λZ Z h=>h)
 cases fl with
 |next ρ=>exact h
 |ret v=>exact .of rfl h
theorem aG(h:exec Γ s ρ H=.ok (.next ρ') H1)(k:W (CK Γ ss ρ' H1) Q E):W (CK Γ (.cons s ss) ρ H) Q E:=gB (W.of h k)
theorem dG(h:ev Γ a 4 ρ H=.ok v H1)(k:Q (.ret v) H1):W (CK Γ (.cons (.ret a) ss) ρ H) Q E:=gB (W.of (cR h) k)
theorem bA(k:Q (.next ρ) H):W (CK Γ .nil ρ H) Q E:=W.of Sn k
theorem Wx(hd:Γ.hd=false)(h:E k H):W (CK Γ (.cons (.raise k) ss) ρ H) Q E:=gB (W.xG (fO hd) h)
theorem fk{r:Bool}(h:ev Γ a 4 ρ H=.ok (.bool r) H1)(k1:r=true->W (CK Γ p ρ H1) (KK Γ ss Q E) E)(k0:r=false->W (CK Γ q ρ H1) (KK Γ ss Q E) E):W (CK Γ (.cons (.ifs a p q) ss) ρ H) Q E:=by
 refine gB ?_
 cases r with
 |true=>rw[d8 (t:=CK Γ p ρ H1) h rfl];exact k1 rfl
 |false=>rw[fN (t:=CK Γ q ρ H1) h rfl];exact k0 rfl
theorem fQ(h:ev Γ a 4 ρ H=.ok (.bool false) H1)(k:W (CK Γ ss ρ H1) Q E):W (CK Γ (.cons (.ifs a p .nil) ss) ρ H) Q E:=fk h nofun λZ=>bA k
theorem ab5{item:AH->Nat->Option (Option AV)}{f:AV->aB->AH->R Fl}(I:Nat->aB->AH->Prop)(N:Nat)
  (hs:∀j ρ H,j<N->I j ρ H->∃v,item H j=some (some v)/\W (f v ρ H) (λfl H'=>∃ρ',fl=.next ρ'/\I (j+1) ρ' H') E)
  (he:∀ρ H,I N ρ H->item H N=some none):∀(k j:Nat)(ρ:aB)(H:AH),I j ρ H->j<=N->N-j<k->W (ga item f k j ρ H) (λfl H'=>∃ρ',fl=.next ρ'/\I N ρ' H') E:=by
 intro zi
 induction zi with
 |zero=>
 exact @λZ Z Z Z Z h=>(Eb _ h).elim
 |succ k ih=>
 exact @λj ρ H i hj h=>by
  rw[E8.s]
  by_cases e:j=N
  ·clear hs hj h;subst e;rw[he ρ H i];exact .of rfl (ae ρ rfl i)
  ·have zH:=Ep hj e;obtain⟨v,h1,h2⟩:=hs j ρ H zH i;rw[h1];refine W.bind (h2.mono (λfl H' h=>?_) λZ Z h=>h);obtain⟨ρ',rfl,i'⟩:=h;exact ih (j+1) ρ' H' i' zH (adk h e zH)
theorem dk(hd:Γ.hd=false)(hi:ev Γ it 4 ρ H=.ok src H1)(I:Nat->aB->AH->Prop)(N:Nat)(hN:N<=cJ H1 src)(h0:I 0 ρ H1)
  (hs:∀j ρ H (G:Prop) (N':Fl->AH->Prop),j<N->I j ρ H->(∀ρ' H',I (j+1) ρ' H'->N' (.next ρ') H')->(∀v vk,aS H src j=some (some v)->bz H t one v ρ=some vk->W (CK Γ p vk H) N' E->G)->G)
  (he:∀ρ H,I N ρ H->aS H src N=some none) (k:∀ρ H,I N ρ H->W (CK Γ ss ρ H) Q E):W (CK Γ (.cons (.for t one it p) ss) ρ H) Q E:=by
 refine gB ?_;have e:exec Γ (.for t one it p) ρ H=ga (λH j=>aS H src j) (λv ρ H=>match bz H t one v ρ with
    |some ρ=>CK Γ p ρ H
    |none=>.bad) (cJ H1 src+1) 0 ρ H1:=by
  rw[E5.for];rw[hd];exact X1 hi rfl
 rw[e];refine(ab5 I N (λj ρ H hj i=>?_) he _ 0 ρ H1 h0 (Ec _) (Ew hN)).mono (λfl H h=>?_) λZ Z h=>h
 ·refine hs j ρ H _ (λfl H'=>∃ρ',fl=.next ρ'/\I (j+1) ρ' H') hj i (λρ' H' x=>⟨ρ',rfl,x⟩) λv vk e1 e2 w=>?_;refine(ae v e1 ?_);rw[e2];exact w
 ·obtain⟨ρ',rfl,i⟩:=h;exact k ρ' H i
theorem abn{item:AH->Nat->Option (Option AV)}{f:AV->AH->R (Option AV)}(I:Nat->List AV->AH->Prop)(N:Nat)
  (hs:∀j acc H,j<N->I j acc H->∃v,item H j=some (some v)/\W (f v H) (λo H'=>I (j+1) (acc++o.toList) H') bC)
  (he:∀acc H,I N acc H->item H N=some none):∀(k j:Nat)(acc:List AV)(H:AH),I j acc H->j<=N->N-j<k->W (dp item f k j acc H) (λxs H'=>I N xs H') E:=by
 intro zi
 induction zi with
 |zero=>
 exact @λZ Z Z Z Z h=>(Eb _ h).elim
 |succ k ih=>
 exact @λj acc H i hj h=>by
  rw[Ag.s]
  by_cases e:j=N
  ·clear hs hj h;subst e;rw[he acc H i];exact .of rfl i
  ·have zH:=Ep hj e;obtain⟨v,h1,h2⟩:=hs j acc H zH i;obtain⟨o,H',h3,i'⟩:=h2.ok;rw[h1];dsimp only;rw[h3];exact ih (j+1) _ H' i' zH (adk h e zH)
theorem aak{P:AV->AH->Prop}(hd:(Γ.hd&& !(fg src&&Jm ([]:List AV)&&one))=false)(hi:ev Γ it (m+1) ρ H=.ok src H1)(I:Nat->List AV->AH->Prop)(N:Nat)(hN:N<=cJ H1 src)(h0:I 0 [] H1)
  (hs:∀j acc H,j<N->I j acc H->∃v vk,aS H src j=some (some v)/\bz H t one v ρ=some vk/\∃r H2,t9 Γ conds m vk H=.ok (.bool r) H2/\(if r=true then W (ev Γ elt m vk H2) (λx H'=>I (j+1) (acc++[x]) H') bC else I (j+1) acc H2))
  (he:∀acc H,I N acc H->aS H src N=some none) (k:∀acc H,I N acc H->acc.length<=al/\P (.ref H.length) (H++[.list acc])):W (ev Γ (.comp elt t one it .nil conds) (m+1) ρ H) P E:=by
 rw[E1.comp];rw[hi];refine W.bind (W.of rfl ?_);refine W.bind (W.of aj ?_);rw[CQ (by rw[hd];decide)];refine W.bind ((abn I N (λj acc H hj i=>?_) he _ 0 [] H1 h0 (Ec _) (Ew hN)).mono (λxs H h=>?_) λZ Z h=>h)
 ·refine o_eeaaee (hs j acc H hj i) λv vk e1 e2 r H2=>r_a λe3 w=>?_;refine(ae v e1 ?_);rw[e2];dsimp only;rw[e3];show W (if r=true then _ else _) _ bC
  cases r with
  |true=>rw[CM rfl] at w⊢;exact W.bind (w.mono (λx H' i=>.of rfl i) λZ Z h=>h)
  |false=>rw[CQ (by decide)] at w⊢;exact .of rfl (by rw[show(none:Option AV).toList=[] from rfl,Ds];exact w)
 ·obtain⟨h1,h2⟩:=k xs H h;unfold cn;rw[CM h1];exact .of rfl h2
theorem iA{P:AV->AH->Prop}(hd:(Γ.hd&& !(fg src&&Jm ([]:List AV)&&one))=false)(hi:ev Γ it (m+1) ρ H=.ok src H1)(I:Nat->List AV->AH->Prop)(N:Nat)(hN:N<=cJ H1 src)(h0:I 0 [] H1)
  (hs:∀j acc H,j<N->I j acc H->∃v vk,aS H src j=some (some v)/\bz H t one v ρ=some vk/\W (ev Γ elt m vk H) (λx H'=>I (j+1) (acc++[x]) H') bC)
  (he:∀acc H,I N acc H->aS H src N=some none) (k:∀acc H,I N acc H->acc.length<=al/\P (.ref H.length) (H++[.list acc])):W (ev Γ (.comp elt t one it .nil .nil) (m+1) ρ H) P E:=by
 refine aak hd hi I N hN h0 (λj acc H hj i=>?_) he k;obtain⟨v,vk,e1,e2,w⟩:=hs j acc H hj i;exact(aip v vk e1 e2 true H (bE gC w))
theorem mN(hd:(Γ.hd&& !(fg src&&Jm ([]:List AV)&&one))=false)(hi:ev Γ it (m+1) ρ H=.ok src H1){g:AV->AV}(hv:∀j,aS H1 src j=some vs[j]?)(hN:vs.length<=cJ H1 src)
  (hs:∀v,v∈vs->∃vk,bz H1 t one v ρ=some vk/\ev Γ elt m vk H1=.ok (g v) H1) (hl:vs.length<=al):ev Γ (.comp elt t one it .nil .nil) (m+1) ρ H=.ok (.ref H1.length) (H1++[.list (vs.map g)]):=by
 have w:W (ev Γ (.comp elt t one it .nil .nil) (m+1) ρ H) (λv H=>v=.ref H1.length/\H=H1++[.list (vs.map g)]) bC:=by
  refine iA hd hi (λj acc H=>H=H1/\acc=(vs.take j).map g) vs.length hN ⟨rfl,by rfl⟩ (λj acc H hj i=>?_) (λacc H i=>?_) λacc H i=>?_
  ·clear hi hN;obtain⟨rfl,rfl⟩:=i;have hj2:=List.getElem?_eq_getElem hj;obtain⟨vk,e1,e2⟩:=hs vs[j] (Gb hj);refine(ax vs[j] vk ((hv j).trans (by rw[hj2])) e1 (W.of e2 ⟨rfl,?_⟩));rw[Fb,hj2,Dx];rfl
  ·clear hi hN hs;obtain⟨rfl,rfl⟩:=i;rw[hv];simp
  ·clear hi hv hN hs;obtain⟨rfl,rfl⟩:=i;rw[FI];exact⟨by rw[List.length_map];exact hl,rfl,rfl⟩
 (obtain⟨v,H',e,zq3,zq4⟩:=w.ok;subst zq3;subst zq4);exact e
end
section
variable {Q:AV->AH->Prop}
theorem dH(f:dK k=some (np,nv,bd))(l:vs.length=np)(h:W (CK (af n) bd (vs++CR (nv-np) .undef) H) (λfl H'=>match fl with | .ret v=>Q v H' | .next _=>Q .none H') E):W (run (n+1) k vs H) Q E:=by unfold run;rw[f];dsimp only;rw[CM l];refine W.bind (h.mono (λfl H h=>?_) λZ Z h=>h);cases fl<;>exact .of rfl h
end
noncomputable abbrev Bs:=List UInt8
def bS(w:Bs):Bool:= !w.isEmpty&&w.all λc=> !(bl c||c==35)
structure wU(g:Bs):Prop where
 skip:∀x,sk false (g++x)=sk false x
 part:∀k,sk false (g.take k)=[]
 stop:∀x,wd (g++x)=[]
theorem ja{r:Bs}:wd (c::r)=if bl c||c==35 then [] else c::wd r:=rfl
theorem aqD{r:Bs}(hr:wd r=[]):∀{w:Bs},(w.all λc=> !(bl c||c==35))=true->wd (w++r)=w:=by
 intro zi
 induction zi with
 |nil=>
 exact @λZ=>hr
 |cons c w ih=>
 exact @λh=>by rw[HZ,Bool.and_eq_true] at h;rw[Hb,ja,CQ (by simpa using h.1),ih h.2]
theorem apr{w r:Bs}(h:bS w=true):sk false (w++r)=w++r:=by
 cases w with
 |nil=>cases h
 |cons c w=>unfold bS at h;rw[Bool.and_eq_true,HZ,Bool.and_eq_true] at h;have h2:=h.2.1;rw[Fz,EZ] at h2;rw[Hb,oZ,CQ (by rw[h2.1];decide),CQ (λe=>by rw[e] at h2;exact CP h2.2 (by decide))]
theorem rP{w:Bs}(h:bS w=true)(hk:0<k):bS (w.take k)=true:=by
 cases w with
 |nil=>cases h
 |cons c w=>obtain⟨k,rfl⟩:=Ju (C2 hk);unfold bS at h⊢;rw[Bool.and_eq_true] at h⊢;refine⟨rfl,?_⟩;rw[C1] at h⊢;exact λx hx=>h.2 x (Ik hx)
theorem rO{w:Bs}(h:bS w=true):w≠[]:=by rintro rfl;cases h
theorem jE{w:Bs}(h:bS w=true):0<w.length:=Ii.mpr (rO h)
section
variable {o g w r x:Bs}
theorem agV(h:o.drop i=x)(hx:x≠[]):o.length=i+x.length/\i<=o.length:=by have:=CN DO h;rw[Dj] at this;have:=Ii.mpr hx;exact alk (by assumption) this
theorem ir(h:o.drop i=g++(w++r))(hg:wU g)(hw:bS w=true)(hr:wd r=[]):nx o i=(w,i+(g.length+w.length))/\i<=o.length/\i+(g.length+w.length)<=o.length/\o.drop (i+(g.length+w.length))=r:=by
 have e:sk false (o.drop i)=w++r:=by rw[h,hg.skip,apr hw]
 obtain⟨l1,l2⟩:=agV h (by simp[rO hw]);unfold bS at hw;rw[Bool.and_eq_true] at hw;rw[List.length_append,List.length_append] at l1;refine(bY ?_ l2 (alm l1) ?_)
 ·unfold nx dg;rw[e,aqD hr hw.2,List.length_append];exact CN (Prod.mk w) (aln l1)
 ·rw[<-Jg,h,<-List.append_assoc,<-List.length_append,KW]
theorem rM(h:sk false (o.drop i)=[]):(nx o i).1=[]:=by show wd (sk false (o.drop i))=[];rw[h];rfl
theorem kY(ho:o.length<100000)(h:o.drop i=g++(w++r))(hg:wU g)(hw:bS w=true)(hr:wd r=[]):run (n+2) 12 [.bytes o,.int i] H=.ok (.tup [.bytes w,.int ((i+(g.length+w.length):Nat))]) H:=by obtain⟨e,l,_⟩:=ir h hg hw hr;have:=aqH (n:=n) (H:=H) ho l (by rw[e];exact rO hw);rw[e] at this;exact this
end
noncomputable def aQ:Bs:= [69,78,68,72,68,82]
noncomputable def bX:Bs:= [84,85,80,76,84,89,80,69]
def rh(k:Bs):Bool:=aW==k||(aV==k||(aZ==k||(aU==k||false)))
def dt(k:Bs):Bool:=rh k||k==bX
section
variable {o:Bs}
theorem ajt{k:Bs}:bj H .uo (.bytes k) (.tup mc)=some (!rh k):=rfl
theorem abz{es:List (Bs×AV)}:dv (H++[.dict es]) H.length=some es:=by unfold dv;rw[aC]
theorem ajv{es:List (Bs×AV)}{k:Bs}:kn (H++[.dict es]) (.bytes k) (.ref H.length)=some (es.any λe=>e.1==k):=by show aJ none (dv (H++[.dict es]) H.length) _=_;rw[abz];rfl
theorem jm{a b:Bs}{r:Bool}(h:(a==b)= !r):bj H .ne (.bytes a) (.bytes b)=some r:=by show some (!(a==b))=_;rw[h,HQ]
theorem apV{es:List (Bs×AV)}{k:Bs}(h:(es.any λe=>e.1==k)=false)(hl:es.length<=1000):gZ (H++[.dict es]) (.ref H.length) (.bytes k) v=some (H++[.dict (es++[(k,v)])]):=by
 show aJ none (dv (H++[.dict es]) H.length) _=_;rw[abz];show(if _ then _ else _)=_
 rw[CQ (by rw[h,Gs];exact λe=>CP (Dv e) (LX hl))];congr 1;rw[Lm _ _ (Nat.le_refl _),FN];rfl
noncomputable def abq:PE:=.cmp (.var 2) .ne (.tu [69,78,68,72,68,82])
noncomputable def sS:PE:=.bor (.cons (.cmp (.var 2) .isin (.var 1)) (.cons (.band (.cons (.cmp (.var 2) .uo (.glob 2)) (.cons (.cmp (.var 2) .ne (.tu [84,85,80,76,84,89,80,69])) .nil))) .nil))
def afV:tW:=.cons (.ifs sS (.cons (.raise 2) .nil) .nil) (.cons (.assign (.tup [4,3]) (.call 12 (.cons (.var 0) (.cons (.var 3) .nil)))) (.cons (.assign (.sub (.var 1) (.var 2)) (.var 4)) (.cons (.assign (.tup [2,3]) (.call 12 (.cons (.var 0) (.cons (.var 3) .nil)))) .nil)))
abbrev iV(n:Nat):=dR (λρ H=>ev (af (n+2)) abq 4 ρ H) (λρ H=>CK (af (n+2)) afV ρ H)
noncomputable def tab(es:List (Bs×Bs)):AO:=.dict (es.map λe=>(e.1,AV.bytes e.2))
noncomputable def c7(es:List (Bs×Bs))(k:Bs):Bool:=es.any λe=>e.1==k
theorem s6{es:List (Bs×Bs)}{k:Bs}:((es.map λe=>(e.1,AV.bytes e.2)).any λe=>e.1==k)=c7 es k:=by unfold c7;rw[List.any_map];rfl
theorem lM{nm:Bs}{a b c:AV}{r:Bool}(h:(nm==aQ)= !r):ev (af (n+2)) abq 4 [.bytes o,a,.bytes nm,b,c] H=.ok (.bool r) H:=aw (Xv rfl rfl) Xy (jm h)
theorem aez{nm:Bs}{es:List (Bs×Bs)}{b c:AV}:ev (af (n+2)) sS 4 [.bytes o,.ref H.length,.bytes nm,b,c] (H++[tab es])=.ok (.bool (c7 es nm|| !dt nm)) (H++[tab es]):=by
 have e1:ev (af (n+2)) (.cmp (.var 2) .isin (.var 1)) 4 [.bytes o,.ref H.length,.bytes nm,b,c] (H++[tab es])=.ok (.bool (c7 es nm)) (H++[tab es]):=aw (Xv rfl rfl) (Xv rfl rfl) (ajv.trans (CN some s6));have e2:ev (af (n+2)) (.cmp (.var 2) .uo (.glob 2)) 4 [.bytes o,.ref H.length,.bytes nm,b,c] (H++[tab es])=.ok (.bool (!rh nm)) (H++[tab es]):=aw (Xv rfl rfl) Xg ajt;have e3:ev (af (n+2)) (.cmp (.var 2) .ne (.tu [84,85,80,76,84,89,80,69])) 4 [.bytes o,.ref H.length,.bytes nm,b,c] (H++[tab es])=.ok (.bool (!(nm==bX))) (H++[tab es]):=aw (Xv rfl rfl) Xy (jm (by rw[HQ];rfl));unfold dt;revert e1 e2 e3
 cases c7 es nm with
 |true=>exact λe1 Z Z=>bW (dm e1)
 |false=>
  cases rh nm with
  |true=>exact λe1 e2 Z=>bW (bx e1 (bx (db (eW e2)) fS))
  |false=>
   cases nm==bX with
   |true=>exact λe1 e2 e3=>bW (bx e1 (bx (db (bV e2 (eW e3))) fS))
   |false=>exact λe1 e2 e3=>bW (bx e1 (dm (db (bV e2 (bV e3 gC)))))
end
variable {T ws es:List (Bs×Bs)}{g o rest nm:Bs}
abbrev d7:=Bs×Bs×Bs×Bs
noncomputable def du:List d7->Bs->Bs
 |[],r=>r
 |(g,v,g',m)::q,r=>g++(v++(g'++(m++du q r)))
noncomputable def eK:List d7->Nat
 |[]=>0
 |(g,v,g',m)::q=>g.length+v.length+(g'.length+m.length)+eK q
def gS:List d7->Bs->List (Bs×Bs)->Prop
 |[],nm,_=>nm=aQ
 |(g,v,g',m)::q,nm,es=>dt nm=true/\c7 es nm=false/\es.length<=900/\wU g/\bS v=true/\wU g'/\bS m=true/\gS q m (es++[(nm,v)])
noncomputable def kH:List d7->Bs->List (Bs×Bs)
 |[],_=>[]
 |(_,v,_,m)::q,nm=>(nm,v)::kH q m
noncomputable def ez:List d7->List (Bs×Bs)
 |[]=>[]
 |(g,v,g',m)::q=>(g,v)::(g',m)::ez q
noncomputable def cU:Bool->List (Bs×Bs)->Nat->Bool
 |_,[],_=>false
 |e,(g,w)::ts,s=>if s<g.length+w.length then e&&decide (g.length<s) else cU (!e) ts (s-(g.length+w.length))
theorem nV{v g' m:Bs}{q:List d7}:eK ((g,v,g',m)::q)=g.length+v.length+(g'.length+m.length)+eK q:=rfl
theorem iI{e:Bool}{w:Bs}{ts:List (Bs×Bs)}(h:s<g.length+w.length):cU e ((g,w)::ts) s=(e&&decide (g.length<s)):=CM h
theorem j8{e:Bool}{w:Bs}{ts:List (Bs×Bs)}(h:¬s<g.length+w.length):cU e ((g,w)::ts) s=cU (!e) ts (s-(g.length+w.length)):=CQ h
theorem qW{m:Bs}(h:dt m=true\/m=aQ):m∈[aW,aV,aZ,aU,bX,aQ]:=by
 rcases h with h |rfl
 ·unfold dt rh at h;simp only[EF,Df,Gv] at h;rcases h with(rfl |rfl |rfl |rfl) |rfl<;>simp
 ·simp
theorem an1:(([aW,aV,aZ,aU,bX,aQ].all λm=>(CS m.length).all λk=>k==0||(!dt (m.take k)&& !(m.take k==aQ)))=true):=by decide
theorem adI{m:Bs}(h:dt m=true\/m=aQ)(h0:0<k)(hk:k<m.length):dt (m.take k)=false/\(m.take k==aQ)=false:=by have:=C1.mp (C1.mp an1 m (qW h)) k (Fq.mpr hk);rw[EM (C2 h0),Gs,Bool.and_eq_true,Fz,Fz] at this;exact this
theorem nj{m:Bs}(h:dt m=true):(m==aQ)=false:=EM λe=>by subst e;exact CP h (by decide)
theorem ac2:∀{q:List d7}{nm:Bs}{es:List (Bs×Bs)},gS q nm es->dt nm=true\/nm=aQ:=by
 intro zi
 induction zi with
 |nil=>
 exact @λZ Z h=>.inr h
 |cons Z Z ih=>
 exact @λZ Z h=>.inl h.1
section
variable {v g' m r:Bs}{a:AV}
theorem qt(h1:c7 es nm=false)(h2:dt nm=true):exec (af (n+2)) (.ifs sS (.cons (.raise 2) .nil) .nil) [.bytes o,.ref H.length,.bytes nm,.int i,a] (H++[tab es])=.ok (.next [.bytes o,.ref H.length,.bytes nm,.int i,a]) (H++[tab es]):=fN (aez.trans (by rw[h1,h2];rfl)) Sn
theorem aen(h1:c7 es nm=false)(hl:es.length<=900):gZ (H++[tab es]) (.ref H.length) (.bytes nm) (.bytes v)=some (H++[tab (es++[(nm,v)])]):=by have:=apV (H:=H) (es:=es.map λe=>(e.1,AV.bytes e.2)) (k:=nm) (v:=.bytes v) (s6.trans h1) (by rw[List.length_map];exact Nat.le_trans hl (by decide));refine this.trans ?_;unfold tab;rw[Dx];rfl
theorem We{c:aB->AH->R AV}{f:aB->AH->R Fl}(h1:c ρ H=.ok (.bool true) H1)(h2:f ρ H1=.exc j H2):dR c f (n+1) ρ H=.exc j H2:=by rw[E9.s];exact X1 h1 (X2 h2)
theorem sX(ho:o.length<100000)(h:o.drop i=g++(v++(g'++(m++r))))(hg:wU g)(hv:bS v=true)(wX:wU g')(hm:bS m=true)(hr:wd r=[])(h1:c7 es nm=false)(h2:dt nm=true)(hl:es.length<=900):
  iV n (k+1) [.bytes o,.ref H.length,.bytes nm,.int i,a] (H++[tab es])=iV n k [.bytes o,.ref H.length,.bytes m,.int ((i+(g.length+v.length)+(g'.length+m.length):Nat)),.bytes v] (H++[tab (es++[(nm,v)])]):=by
 have e:=(ir h hg hv (wX.stop _)).2.2.2;exact W1 (lM (r:=true) (nj h2)) (Sc (qt h1 h2) (Sc (dF rfl (fR (ad (Xv rfl rfl) (ad (Xv rfl rfl) aj)) (kY (n:=n) ho h hg hv (wX.stop _))) rfl)
  (Sc (lp (Xv rfl rfl) (Xv rfl rfl) (Xv rfl rfl) (aen h1 hl)) (Sc (dF rfl (fR (ad (Xv rfl rfl) (ad (Xv rfl rfl) aj)) (kY (n:=n) ho e wX hm hr)) rfl) Sn)))) rfl
theorem aqn(ho:o.length<100000)(hi:i<=o.length)(h:sk false (o.drop i)=[])(h1:c7 es nm=false)(h2:dt nm=true):
  iV n (k+1) [.bytes o,.ref H.length,.bytes nm,.int i,a] (H++[tab es])=.exc 1 (H++[tab es]):=
 We (lM (r:=true) (nj h2)) (Sc (qt h1 h2) (Se (by rw[E5.assign];exact X2 (fR (ad (Xv rfl rfl) (ad (Xv rfl rfl) aj)) (td (n:=n) ho hi (rM h))))))
theorem aeB(ho:o.length<100000)(h:o.drop i=g++(v++r))(hg:wU g)(hv:bS v=true)(hr:wd r=[])(hr':sk false r=[])(h1:c7 es nm=false)(h2:dt nm=true)(hl:es.length<=900):
  iV n (k+1) [.bytes o,.ref H.length,.bytes nm,.int i,a] (H++[tab es])=.exc 1 (H++[tab (es++[(nm,v)])]):=by
 obtain⟨_,_,l,e⟩:=ir h hg hv hr;exact We (lM (r:=true) (nj h2)) (Sc (qt h1 h2) (Sc (dF rfl (fR (ad (Xv rfl rfl) (ad (Xv rfl rfl) aj)) (kY (n:=n) ho h hg hv hr)) rfl)
  (Sc (lp (Xv rfl rfl) (Xv rfl rfl) (Xv rfl rfl) (aen h1 hl)) (Se (by rw[E5.assign];exact X2 (fR (ad (Xv rfl rfl) (ad (Xv rfl rfl) aj)) (td (n:=n) ho l (rM (by rw[e];exact hr')))))))))
theorem aeC(h1:dt nm=false)(h2:(nm==aQ)=false):
  iV n (k+1) [.bytes o,.ref H.length,.bytes nm,.int i,a] (H++[tab es])=.exc 2 (H++[tab es]):=
 We (lM (r:=true) h2) (Se (d8 (aez.trans (by rw[h1,Bool.not_false,FY])) (Se (fO rfl))))
theorem aqm:iV n (k+1) [.bytes o,.ref H.length,.bytes aQ,.int i,a] (H++[tab es])=.ok (.next [.bytes o,.ref H.length,.bytes aQ,.int i,a]) (H++[tab es]):=W0 (lM (r:=false) (by decide))
end
section
theorem aeD(ho:o.length<100000){r:Bs}(hr:wd r=[]):∀(q:List d7)(nm:Bs)(es:List (Bs×Bs))(i k:Nat)(a:AV),gS q nm es->o.drop i=du q r->q.length<k->
  ∃a',iV n k [.bytes o,.ref H.length,.bytes nm,.int i,a] (H++[tab es])=.ok (.next [.bytes o,.ref H.length,.bytes aQ,.int ((i+eK q:Nat)),a']) (H++[tab (es++kH q nm)])
 |[],nm,es,i,0,a,_,_,hk=>(Eb _ hk).elim
 |[],nm,es,i,k+1,a,hq,h,hk=>by obtain rfl:=hq;exact⟨a,aqm.trans (by rw[show kH [] aQ=[] from rfl,Ds];rfl)⟩
 |(g,v,g',m)::q,nm,es,i,0,a,_,_,hk=>(Eb _ hk).elim
 |(g,v,g',m)::q,nm,es,i,k+1,a,hq,h,hk=>by
  (revert hq;refine r_aaaaaa λf u hl hg hv wX=>r_a λhm hq=>?_);have hs:wd (du q r)=[]:=by
   cases q with
   |nil=>exact hr
   |cons x q=>clear h hk;obtain⟨a1,a2,a3,a4⟩:=x;exact hq.2.2.2.1.stop _
  obtain⟨a',e⟩:=aeD ho hr q m _ (i+(g.length+v.length)+(g'.length+m.length)) k (.bytes v) hq (ir (ir h hg hv (wX.stop _)).2.2.2 wX hm hs).2.2.2 (FM hk);refine⟨a',(sX ho h hg hv wX hm hs u f hl).trans (e.trans ?_)⟩;rw[List.append_assoc,show i+(g.length+v.length)+(g'.length+m.length)+eK q=i+eK ((g,v,g',m)::q) by rw[nV];exact alp];rfl
theorem jM{a b:Bs}(h:s<=a.length):(a++b).take s=a.take s:=List.take_append_of_le_length h
theorem i9{a b:Bs}(h:a.length<=s):(a++b).take s=a++b.take (s-a.length):=by rw[Lp,EH h]
theorem ai2:∀{q:List d7}{r:Bs},(du q r).length=eK q+r.length:=by
 intro zi
 induction zi with
 |nil=>
 exact @λr=>(EV _).symm
 |cons zp q ih=>
 obtain⟨g,v,g',m⟩:=zp;exact @λr=>by have:=ih (r:=r);show(g++(v++(g'++(m++du q r)))).length=g.length+v.length+(g'.length+m.length)+eK q+r.length;simp only[List.length_append,this];exact alq
theorem aeE(ho:o.length<100000):∀(q:List d7)(nm:Bs)(es:List (Bs×Bs))(i k s:Nat)(a:AV),gS q nm es->o.drop i=(du q []).take s->i<=o.length->s<eK q->q.length<k->
  ∃o':AO,iV n k [.bytes o,.ref H.length,.bytes nm,.int i,a] (H++[tab es])=.exc (if cU false (ez q) s=true then 2 else 1) (H++[o'])
 |[],nm,es,i,k,s,a,_,_,_,hs,_=>(Eb _ hs).elim
 |(g,v,g',m)::q,nm,es,i,0,s,a,_,_,_,_,hk=>(Eb _ hk).elim
 |(g,v,g',m)::q,nm,es,i,k+1,s,a,hq,h,hi,hs,hk=>by
  (revert hq;refine r_aaaaaa λf u hl hg hv wX=>r_a λhm hq=>?_);have pv:=jE hv;have pm:=jE hm;show ∃o':AO,_=R.exc (if cU false ((g,v)::(g',m)::ez q) s=true then 2 else 1) (H++[o'])
  change o.drop i=(g++(v++(g'++(m++du q [])))).take s at h
  by_cases c1:s<=g.length
  ·rw[jM c1] at h;rw[iI (show s<g.length+v.length by exact Nat.lt_of_le_of_lt c1 (Ho pv))];exact⟨_,aqn ho hi (by rw[h];exact hg.part s) u f⟩
  have c1':g.length<=s:=by exact GK c1
  rw[i9 c1'] at h
  by_cases c2:s-g.length<=v.length
  ·rw[jM c2] at h;have hd:=aeB (n:=n) (H:=H) (k:=k) (a:=a) (r:= []) ho (by rw[h,Ds]) hg (rP hv (show 0<s-g.length by exact Ff (Fd c1))) rfl rfl u f hl;have e:cU false ((g,v)::(g',m)::ez q) s=false:=by
    by_cases c3:s<g.length+v.length
    ·rw[iI c3];rfl
    ·rw[j8 c3,iI (alr pm c1 c2 c3),DD (als c1 c2 c3)];rfl
   rw[e];exact⟨_,hd⟩
  rw[i9 (GK c2)] at h;rw[j8 (show ¬s<g.length+v.length by exact Ey.mpr (CU (Lx (Fd c2))))]
  by_cases c3:s-g.length-v.length<=g'.length
  ·rw[jM c3] at h;rw[iI (alu pm c3),DD (alv c3)];refine⟨_,aeB ho h hg hv ?_ (wX.part _) u f hl⟩;have w:=wX.stop [];rw[Ds] at w;(revert w;refine cX g' λgg hgg w=>?_)
   cases gg with
   |nil=>rw[GG];rfl
   |cons c gg=>
    rw[ja] at w
    cases s-g.length-v.length with
    |zero=>rfl
    |succ j=>
     rw[Hl,ja]
     split at w
     ·rw[CM ‹_›]
     ·cases w
  rw[i9 (GK c3)] at h
  by_cases c4:s-g.length-v.length-g'.length<m.length
  ·rw[jM (CU c4)] at h;rw[iI (alw c3 c4),Db (alx c3)];obtain⟨p1,p2⟩:=adI (ac2 hq) (show 0<s-g.length-v.length-g'.length by exact Ff (Fd c3)) c4;have Cd:=rP hm (show 0<s-g.length-v.length-g'.length by exact Ff (Fd c3))
   cases k with
   |zero=>exact(Eb _ (FM hk)).elim
   |succ k=>exact⟨_,(sX (r:= []) ho (by rw[h,Ds]) hg hv wX Cd rfl u f hl).trans (aeC p1 p2)⟩
  ·rw[i9 (Dq c4)] at h;rw[j8 (aly pm c3 c4),show s-(g.length+v.length)-(g'.length+m.length)=s-g.length-v.length-g'.length-m.length by exact alz];have zh:wd ((du q []).take (s-g.length-v.length-g'.length-m.length))=[]:=by
    cases q with
    |nil=>rw[show du [] []=[] from rfl,GG];rfl
    |cons x q=>
     clear hs hk h;obtain⟨a1,a2,a3,a4⟩:=x;have w:=hq.2.2.2.1.stop (a2++(a3++(a4++du q [])));change wd ((a1++(a2++(a3++(a4++du q [])))).take _)=[];(revert w;refine gn (a1++(a2++(a3++(a4++du q [])))) λl w=>?_)
     cases l with
     |nil=>rw[GG];rfl
     |cons c gg=>
      rw[ja] at w
      cases s-g.length-v.length-g'.length-m.length with
      |zero=>rfl
      |succ j=>
       rw[Hl,ja]
       split at w
       ·rw[CM ‹_›]
       ·cases w
   have e:=ir (ir h hg hv (wX.stop _)).2.2.2 wX hm zh;obtain⟨H',e'⟩:=aeE ho q m (es++[(nm,v)]) (i+(g.length+v.length)+(g'.length+m.length)) k (s-g.length-v.length-g'.length-m.length) (.bytes v) hq e.2.2.2 e.2.2.1 (by rw[nV] at hs;exact anK hs pm c4) (FM hk);exact⟨H',(sX ho h hg hv wX hm zh u f hl).trans e'⟩
end
noncomputable def aq:Bs:= [80,55]
section
variable {g0 n0 r:Bs}{q:List d7}
theorem sK(hq:gS q n0 [])(hr:wd r=[]):wd (du q r)=[]:=by
 cases q with
 |nil=>exact hr
 |cons x q=>obtain⟨a1,a2,a3,a4⟩:=x;exact hq.2.2.2.1.stop _
theorem ai3:∀{q:List d7}{nm:Bs}{es:List (Bs×Bs)},gS q nm es->q.length<=eK q:=by
 intro zi
 induction zi with
 |nil=>
 exact @λZ Z Z=>Nat.le_refl _
 |cons zp q ih=>
 obtain⟨g,v,g',m⟩:=zp;exact @λnm es h=>by have:=ih h.2.2.2.2.2.2.2;have p:=jE h.2.2.2.2.1;rw[nV,Di];exact alA this p
theorem ah9(ho:o.length<100000)(h:o.drop 2=g0++(n0++du q r))(hg:wU g0)(hn:bS n0=true)(hr:wd r=[])(hq:gS q n0 []):
  run (n+3) 16 [.bytes o] H=.ok (.tup [.ref H.length,.int ((2+(g0.length+n0.length)+eK q:Nat))]) (H++[tab (kH q n0)]):=by
 have e:=ir h hg hn (sK hq hr);have hl:q.length<100000:=by have l:=ai3 hq;have:=CN DO e.2.2.2;rw[ai2,Dj] at this;exact anJ l this ho
 obtain⟨a',t⟩:=aeD (n:=n) (H:=H) ho hr q n0 [] (2+(g0.length+n0.length)) 100000 .undef hq e.2.2.2 hl;refine dQ (np:=1) (nv:=5) (bd:=lC) rfl rfl ?_;show CK (af (n+2)) lC [.bytes o,.undef,.undef,.undef,.undef] H=_;exact Sc (aD mO) (Sc (dF rfl (fR (ad (Xv rfl rfl) (ad Xi aj)) (kY (n:=n) (i:=2) ho h hg hn (sK hq hr))) rfl) (Sc (mL t) (Sr (cR (cq (ad (Xv rfl rfl) (ad (Xv rfl rfl) aj)))))))
theorem aia(ho:o.length<100000)(h2:2<=o.length)(h:o.drop 2=(g0++(n0++du q [])).take s)(hg:wU g0)(hn:bS n0=true)(hq:gS q n0 [])(hs:s<g0.length+n0.length+eK q)(hl:q.length<100000):
  ∃o':AO,run (n+3) 16 [.bytes o] H=.exc (if cU true ((g0,n0)::ez q) s=true then 2 else 1) (H++[o']):=by
 suffices k:∃o':AO,CK (af (n+2)) lC [.bytes o,.undef,.undef,.undef,.undef] H=.exc (if cU true ((g0,n0)::ez q) s=true then 2 else 1) (H++[o']) from by
  obtain⟨H',k⟩:=k;exact⟨H',gv (np:=1) (nv:=5) (bd:=lC) rfl rfl k⟩
 have pn:=jE hn
 by_cases c1:s<=g0.length
 ·rw[jM c1] at h;rw[iI (Nat.lt_of_le_of_lt c1 (Ho pn)),DD (Ey.mpr c1)];exact⟨_,Sc (aD mO) (Se (by rw[E5.assign];exact X2 (fR (ad (Xv rfl rfl) (ad Xi aj)) (td (n:=n) (i:=2) ho h2 (rM (by rw[h];exact hg.part s))))))⟩
 rw[i9 (GK c1)] at h
 by_cases c2:s-g0.length<n0.length
 ·rw[jM (CU c2)] at h;rw[iI ((Gh (Ft c1)).mp c2),Db (Fd c1)];obtain⟨p1,p2⟩:=adI (ac2 hq) (show 0<s-g0.length by exact Ff (Fd c1)) c2;have Cd:=rP hn (show 0<s-g0.length by exact Ff (Fd c1));exact⟨_,Sc (aD mO) (Sc (dF rfl (fR (ad (Xv rfl rfl) (ad Xi aj)) (kY (n:=n) (i:=2) (r:= []) ho (by rw[h,Ds]) hg Cd rfl)) rfl) (Se (by rw[E5.uU];exact aeC (n:=n) (k:=99999) (es:= []) p1 p2)))⟩
 ·rw[i9 (Dq c2)] at h;rw[j8 (Ey.mpr (Nat.add_le_of_le_sub' (Ft c1) (Dq c2))),Nat.sub_add_eq];have zh:wd ((du q []).take (s-g0.length-n0.length))=[]:=by
   have w:=sK (r:= []) hq rfl;(revert w;refine gn (du q []) λl w=>?_)
   cases l with
   |nil=>rw[GG];rfl
   |cons c gg=>
    rw[ja] at w
    cases s-g0.length-n0.length with
    |zero=>rfl
    |succ j=>
     rw[Hl,ja]
     split at w
     ·rw[CM ‹_›]
     ·cases w
  have e:=ir h hg hn zh;obtain⟨H',e'⟩:=aeE (n:=n) (H:=H) ho q n0 [] (2+(g0.length+n0.length)) 100000 (s-g0.length-n0.length) .undef hq e.2.2.2 e.2.2.1 (alB hs c1 c2) hl;exact⟨H',Sc (aD mO) (Sc (dF rfl (fR (ad (Xv rfl rfl) (ad Xi aj)) (kY (n:=n) (i:=2) ho h hg hn zh)) rfl) (Se (by rw[E5.uU];exact e')))⟩
end
noncomputable def iT(w:Bs):Bool:=w.all λc=>decide (48<=(c.toNat:Int))&&decide ((c.toNat:Int)<=57)
noncomputable def dec(w:Bs):Int:=w.foldl (λa c=>a*10+c.toNat-48) 0
section
theorem afW:∀{l:List α},bools (l.map λZ=>AV.bool true)=some (l.map λZ=>true):=by
 intro zi
 induction zi with
 |nil=>
 exact rfl
 |cons x l ih=>
 exact by
  show(some true).bind (λx=>(bools (l.map λZ=>AV.bool true)).map (x::·))=_;rw[ih];rfl
theorem aan{l:List α}:pU (H++[.list (l.map λZ=>AV.bool true)]) [.ref H.length]=.ok (.bool true) (H++[.list (l.map λZ=>AV.bool true)]):=by
 show aJ R.bad (az _ H.length) _=_;rw[bq aC];show aJ R.bad (bools _) _=_;rw[afW];show R.ok (AV.bool ((l.map λZ=>true).all id)) _=_;have e:((l.map λZ=>true).all id)=true:=by rw[Ja];exact C1.mpr λZ Z=>rfl
 rw[e]
theorem eZ{r:Bool}(h:decide (x<=y)=r):bj H .le (.int x) (.int y)=some r:=by rw[<-h];rfl
theorem lK{r:Bool}(h:decide (y<=x)=r):bj H .ge (.int x) (.int y)=some r:=by rw[<-h];rfl
theorem rl{w:Bs}:aS H (.bytes w) j=some ((w.map λc=>AV.int c.toNat)[j]?):=by rw[De];rfl
theorem aj4{w:Bs}(hw:iT w=true)(hl:w.length<=9):∃x,run (n+1) 13 [.bytes w] H=.ok (.int (dec w)) (H++[x]):=by
 have hc:ev (af n) (.comp (.uK (.tm 48) .le (.var 3) .le (.tm 57)) [3] true (.var 0) .nil .nil) 4 [.bytes w,.undef,.undef,.undef] H=.ok (.ref H.length) (H++[.list ((w.map λc=>AV.int c.toNat).map λZ=>.bool true)]):=by refine mN rfl (Xv rfl rfl) (λj=>rl) (by rw[List.length_map];exact Nat.le_refl _) (λv hv=>?_) (by rw[List.length_map];unfold al;exact alC hl);(obtain⟨c,hc,zq2⟩:=Dz.mp hv;clear hv;subst zq2);have:=C1.mp hw c hc;rw[Bool.and_eq_true] at this;exact(ae ([.bytes w,.undef,.undef,.int c.toNat]) rfl (jP (r:=true) (q:=true) Xi (Xv rfl rfl) (eZ this.1) Xi (eZ this.2) rfl))
 have w:=dH (n:=n) (k:=13) (np:=1) (nv:=4) (bd:=qk) (vs:= [.bytes w]) (H:=H) (Q:=λv H'=>v=.int (dec w)/\H'=H++[.list ((w.map λc=>AV.int c.toNat).map λZ=>.bool true)]) (E:=bC) rfl rfl (by
  show W (CK (af n) qk [.bytes w,.undef,.undef,.undef] H) _ _;refine fQ (bW (bx (aw (aM rfl (ad (Xv rfl rfl) aj) EO) Xg (eY (DD (alD hl)))) (bx (iB (r:=true) (aM rfl (ad hc aj) aan)) fS))) ?_;refine aG (aD Xi) (dk rfl (Xv rfl rfl) (λj ρ H'=>H'=H++[.list ((w.map λc=>AV.int c.toNat).map λZ=>.bool true)]/\∃a,ρ=[.bytes w,a,.int (dec (w.take j)),.undef]) w.length (Nat.le_refl _) (ke rfl _ rfl) (λj ρ H' Gq Nq hj i uL kq=>?_) (λρ H' i=>?_) λρ H' i=>?_)
  ·(revert i;refine r_ae λzq0 a zq2=>?_;subst zq0;subst zq2);refine(kq (.int (w[j]).toNat) _ ?_ rfl (aG (aD (am (am (am (Xv rfl rfl) Xi (fH (.inr (by decide)))) (Xv rfl rfl) rfl) Xi rfl)) (bA (uL _ _ (ke rfl (.int (w[j]).toNat) ?_)))))
   ·rw[rl,De,List.getElem?_eq_getElem hj];rfl
   ·have:dec (w.take (j+1))=dec (w.take j)*10+(w[j]).toNat-48:=by
     unfold dec;rw[Fb,List.getElem?_eq_getElem hj,K8];rfl
    rw[this];rfl
  ·rw[rl,Dw (by rw[List.length_map];exact Nat.le_refl _)]
  ·(revert i;refine r_ae λzq0 a zq2=>?_;subst zq0;subst zq2);rw[FI];exact dG (Xv rfl rfl) ⟨rfl,rfl⟩)
 (obtain⟨v,H',e,zq3,zq4⟩:=w.ok;subst zq3;subst zq4);exact⟨_,e⟩
theorem afR:((CS 17).all λp=>decide (p<2)||decide (fo (2^p-1)=p))=true:=by decide
theorem aoh(h:2<=p/\p<=16):run (n+1) 14 [.int (2^p-1)] H=.ok (.int p) H:=by
 have hb:=C1.mp afR p (Fq.mpr (Ew h.2));rw[EF,C9,C9] at hb;have hb:=hb.resolve_left (alE h);have pos:(0:Int)<2^p:=Int.pow_pos (by decide);have e1:dX H .ub (.int (2^p-1)) []=.ok (.int p) H:=by show av R.bad (0<=(2^p-1:Int)) _=_;unfold av;rw[CM (HY pos),hb]
 have e2:dc .pow (.int 2) (.int p) H=.ok (.int (2^p)) H:=by show av R.bad (0<=(p:Int)/\(p:Int)<=1000/\(2:Int).natAbs<cI) _=_;unfold av;rw[CM ⟨by exact alF h hb,by exact alG h hb,by decide⟩,DW]
 refine dQ (np:=1) (nv:=2) (bd:=lB) rfl rfl ?_;show CK (af n) lB [.int (2^p-1),.undef] H=_;refine Sc (aD (cS rfl (Xv rfl rfl) rfl aj e1)) (Sc (fN (bW (bx (iB (r:=true) (jP (r:=true) (q:=true) Xi (Xv rfl rfl) (eZ (Db (alH h hb))) Xi (eZ (Db (alI h hb))) rfl))
  (bx (aw (Xv rfl rfl) (am (am Xi (Xv rfl rfl) e2) Xi rfl) (jl (DA _))) fS))) Sn) (Sr (cR (Xv rfl rfl))))
theorem aog{M:Int}(h:M∈[0,1,131071,2,6,254,65534]):run (n+1) 14 [.int M] H=.exc 2 H:=by
 have g:∀b:Nat,fo M=b->0<=M->(¬(2<=b/\b<=16))\/((2<=b/\b<=16)/\(M==2^b-1)=false)->run (n+1) 14 [.int M] H=.exc 2 H:=λb hb h0 c=>by
  have e1:dX H .ub (.int M) []=.ok (.int b) H:=by show av R.bad (0<=M) _=_;unfold av;rw[CM h0,hb]
  refine gv (np:=1) (nv:=2) (bd:=lB) rfl rfl ?_;show CK (af n) lB [.int M,.undef] H=_;refine Sc (aD (cS rfl (Xv rfl rfl) rfl aj e1)) (Se (d8 (bW ?_) (Se (fO rfl))));rcases c with c |c
  ·by_cases c2:2<=b
   ·exact dm (iB (r:=false) (jP (r:=true) (q:=false) Xi (Xv rfl rfl) (eZ (Db (KM.mp c2))) Xi (eZ (DD (alJ c c2))) rfl))
   ·exact dm (iB (r:=false) (jP (r:=false) (q:=false||decide ((b:Int)<=57-41)) Xi (Xv rfl rfl) (eZ (DD (alK c2))) Xi (eZ rfl) rfl))
  ·have e2:dc .pow (.int 2) (.int b) H=.ok (.int (2^b)) H:=by
    show av R.bad (0<=(b:Int)/\(b:Int)<=1000/\(2:Int).natAbs<cI) _=_;unfold av;rw[CM ⟨by omega,by omega,by decide⟩,DW]
   exact bx (iB (r:=true) (jP (r:=true) (q:=true) Xi (Xv rfl rfl) (eZ (Db (by omega))) Xi (eZ (Db (by omega))) rfl))
    (dm (aw (Xv rfl rfl) (am (am Xi (Xv rfl rfl) e2) Xi rfl) (jl (r:=true) c.2)))
 have d:([0,1,131071,2,6,254,65534].all λM:Int=>decide (fo M=((fo M).toNat:Int)/\0<=M/\((¬(2<=(fo M).toNat/\(fo M).toNat<=16))\/((2<=(fo M).toNat/\(fo M).toNat<=16)/\(M==2^(fo M).toNat-1)=false))))=true:=by decide
 have d:=Dv (C1.mp d M h);exact g _ d.1 d.2.1 d.2.2
theorem abd(h:ρ[j]?=some (.int x)):ev (af n) (.not (.uK (.tm 1) .le (.var j) .le (.tm 65535))) 4 ρ H=.ok (.bool (!(decide (1<=x)&&decide (x<=65535)))) H:=iB (jP Xi (Xv h rfl) (eZ rfl) Xi (eZ rfl) rfl)
theorem ad6:run (n+1) 15 [.int x,.int y] H=if(decide (1<=x)&&decide (x<=65535))&&(decide (1<=y)&&decide (y<=65535)) then .ok .none H else .exc 2 H:=by
 have e1:=abd (n:=n) (H:=H) (x:=x) (j:=0) (ρ:= [.int x,.int y]) rfl;have e2:=abd (n:=n) (H:=H) (x:=y) (j:=1) (ρ:= [.int x,.int y]) rfl
 cases h1:decide (1<=x)&&decide (x<=65535) with
 |false=>rw[h1] at e1;exact gv (np:=2) (nv:=2) (bd:=mW) rfl rfl (Se (d8 (bW (dm e1)) (Se (fO rfl))))
 |true=>
  rw[h1] at e1
  cases h2:decide (1<=y)&&decide (y<=65535) with
  |false=>rw[h2] at e2;exact gv (np:=2) (nv:=2) (bd:=mW) rfl rfl (Se (d8 (bW (bx e1 (dm e2))) (Se (fO rfl))))
  |true=>rw[h2] at e2;exact aoC (np:=2) (nv:=2) (bd:=mW) rfl rfl (Sc (fN (bW (bx e1 (bx e2 fS))) Sn) Sn)
end
noncomputable def fp(size x:Nat):Bs:=if size=1 then [CZ x] else [CZ (x/256),CZ (x%256)]
noncomputable def aE(size:Nat)(fl:List Nat):Bs:=fl.flatMap (fp size)
noncomputable def ah(p:Nat):Nat:=if p<=8 then 1 else 2
noncomputable def aA(fl:List Nat):List AV:=fl.map λx:Nat=>AV.int x
theorem jn{size x:Nat}:aE size (x::fl)=fp size x++aE size fl:=rfl
theorem abI{size:Nat}{a b:List Nat}:aE size (a++b)=aE size a++aE size b:=K6
theorem j9{x:Nat}:(fp (ah p) x).length=ah p:=by
 unfold ah fp
 split<;>rfl
theorem jp:∀{fl:List Nat},(aE (ah p) fl).length=fl.length*ah p:=by
 intro zi
 induction zi with
 |nil=>
 exact(GO _).symm
 |cons x fl ih=>
 exact by
  rw[jn,List.length_append,j9,ih,Di,Fg,Ev]
theorem sZ{x:Nat}(h:x<256):(CZ x).toNat=x:=by rw[GQ];exact Hp h
theorem afT(h:∀x∈fl,x<256):(aE 1 fl).map (λc=>AV.int c.toNat)=aA fl:=by
 induction fl with
 |nil=>rfl
 |cons x fl ih=>rw[jn,Dx,ih λy hy=>h y (Dt _ hy)];show AV.int ((CZ x).toNat)::_=_;rw[sZ (h x (Dy ..))];rfl
theorem aeH:∀{fl:List Nat}{r:Bs}{j x:Nat},fl[j]?=some x->(aE 2 fl++r)[j*2]?=some (CZ (x/256))/\(aE 2 fl++r)[j*2+1]?=some (CZ (x%256))
 |[],_,_,_,h=>by cases h
 |y::fl,r,0,x,h=>by cases h;exact⟨rfl,rfl⟩
 |y::fl,r,j+1,x,h=>by rw[K9] at h;have:=aeH (r:=r) h;rw[Fg];exact this
theorem ace:∀{fl:List Nat},u9 (aA fl)=some (fl.map λx:Nat=>(x:Int)):=by
 intro zi
 induction zi with
 |nil=>
 exact rfl
 |cons x fl ih=>
 exact by
  show(some (x:Int)).bind (λx=>(u9 (aA fl)).map (x::·))=_;rw[ih];rfl
theorem ahF{B:Int}:∀{l:List Int}{a:Int},a<B->(∀x∈l,x<B)->l.foldl max a<B:=by
 intro zi
 induction zi with
 |nil=>
 exact @λZ h Z=>h
 |cons x l ih=>
 exact @λa h q=>ih (a:=max a x) (by have:=q x (Dy ..);exact Int.max_lt.mpr ⟨h,this⟩) λy hy=>q y (Dt _ hy)
theorem ahE{B:Int}:∀{l:List Int}{a:Int},(B<=a\/∃x∈l,B<=x)->B<=l.foldl max a:=by
 intro zi
 induction zi with
 |nil=>
 exact @λZ h=>by
  rcases h with h |⟨x,hx,_⟩
  ·exact h
  ·cases hx
 |cons x l ih=>
 exact @λa h=>ih (a:=max a x) (by
  rcases h with h |⟨y,hy,h⟩
  ·exact .inl (Ed h (Ky ..))
  ·cases hy with
   |head=>exact .inl (Ed h (Kz ..))
   |tail _ hy=>exact .inr (ae y hy h))
section
theorem jG(h:p<=1000):dc .pow (.int 2) (.int p) H=.ok (.int (2^p)) H:=by show av R.bad (0<=(p:Int)/\(p:Int)<=1000/\(2:Int).natAbs<cI) _=_;unfold av;rw[CM ⟨by exact rR h,by exact(FJ rfl rfl h),by decide⟩,DW]
theorem iL(h:k<1000000000):cg (k:Int):=⟨DU k,by unfold ji;exact alL h⟩
theorem qT(h:k<1000000000):dr (k:Int)=true:=by unfold dr;rw(occs:=.all) [Db (alM h),Db (alN h)];rfl
theorem aoj{a b c:Int}(h:(dr a&&dr b&&decide (0<c)&&decide (c<1000))=true):cT H .range [.int a,.int b,.int c]=.ok (.uV a b c) H:=by show av R.bad ((dr a&&dr b&&decide (0<c)&&decide (c<1000))=true) (R.ok (AV.uV a b c) H)=_;unfold av;exact CM h
theorem aoi{a:Int}(h:dr a=true):cT H .range [.int a]=.ok (.uV 0 a 1) H:=by show av R.bad (dr a=true) (R.ok (AV.uV 0 a 1) H)=_;unfold av;exact CM h
theorem eO(h:k<1000000000):cT H .range [.int k]=.ok (.uV 0 k 1) H:=aoi (qT h)
theorem cr:aS H (.uV 0 k 1) j=some (if j<k then some (.int j) else none):=by
 show some (if(0:Int)+j*1<k then some (AV.int ((0:Int)+j*1)) else none)=_
 rw[Int.zero_add,Int.mul_one]
 by_cases h:j<k
 ·rw[CM h,CM (C8.mpr h)]
 ·rw[CQ h,CQ (λe=>h (C8.mp e))]
theorem ad8{p a b c:AV}(hp:p=.int q):exec (af n) (.assign (.var 4) (.bin .add (.tm 1) (.bi .int (.cons (.cmp (.var 3) .gt (.tm 8)) .nil)))) [a,b,c,p,.undef,.undef,.undef] H=.ok (.next [a,b,c,p,.int (ah q),.undef,.undef]) H:=by
 subst hp;have:(1:Int)+(if decide (8<(q:Int))=true then 1 else 0)=(ah q:Nat):=by
  unfold ah
  by_cases h:q<=8
  ·rw[CM h,CQ (by simp;exact FJ rfl rfl h)];rfl
  ·rw[CQ h,CM (by simp;exact ada h)];rfl
 rw[<-this];exact aD (am Xi (aM rfl (ad (aw (Xv rfl rfl) Xi (eY rfl)) aj) rfl) rfl)
theorem acx{at' many:Nat}(h:many<1000000000):ev (af n) (.cmp (.bin .add (.var 1) (.bin .mul (.var 2) (.var 4))) .gt (.bi .len (.cons (.var 0) .nil))) 4 [.bytes o,.int at',.int many,.int p,.int (ah p),.undef,.undef] H=.ok (.bool (decide (o.length<at'+many*ah p))) H:=by
 have hm:(many:Int).natAbs<cI:=by rw[FZ];unfold cI;exact CT h (by decide)
 exact aw (am (Xv rfl rfl) (am (Xv rfl rfl) (Xv rfl rfl) (fH (.inl hm))) rfl) (aM rfl (ad (Xv rfl rfl) aj) EO) (eY (HH.mpr (by rw[<-Gz];exact alO)))
theorem akb{at' many:Nat}(h:many<1000000000)(hc:o.length<at'+many*ah p):run (n+1) 9 [.bytes o,.int at',.int many,.int p] H=.exc 1 H:=by refine gv (np:=4) (nv:=7) (bd:=jW) rfl rfl ?_;show CK (af n) jW [.bytes o,.int at',.int many,.int p,.undef,.undef,.undef] H=_;exact Sc (ad8 rfl) (Se (d8 ((acx h).trans (by rw[Db hc])) (Se (fO rfl))))
noncomputable def ahS:tW:=.cons (.assign (.var 5) (.bi .list (.cons (.slice (.var 0) (.cons (.var 1) .nil) (.cons (.bin .add (.var 1) (.var 2)) .nil) .nil) .nil))) .nil
noncomputable def ahT:tW:=.cons (.assign (.var 5) (.comp (.bin .add (.bin .mul (.idx (.var 0) (.var 6)) (.tm 256)) (.idx (.var 0) (.bin .add (.var 6) (.tm 1)))) [6] true (.bi .range (.cons (.var 1) (.cons (.bin .add (.var 1) (.bin .mul (.tm 2) (.var 2))) (.cons (.tm 2) .nil)))) .nil .nil)) .nil
theorem ahU{at':Nat}{r:Bs}(ho:o.length<100000)(hd:o.drop at'=aE (ah p) fl++r)(ha:at'<=o.length)(hx:∀x∈fl,x<256^ah p):
  exec (af n) (.ifs (.cmp (.var 4) .eq (.tm 1)) ahS ahT) [.bytes o,.int at',.int fl.length,.int p,.int (ah p),.undef,.undef] H=.ok (.next [.bytes o,.int at',.int fl.length,.int p,.int (ah p),.ref H.length,.undef]) (H++[.list (aA fl)]):=by
 have hl:=CN DO hd;rw[Dj,List.length_append,jp] at hl;have hs:1<=ah p:=by unfold ah;split<;>decide
 have hm:fl.length<=fl.length*ah p:=Jv _ hs
 by_cases hp:p<=8
 ·have e:ah p=1:=CM hp;rw[e] at hd hl hx⊢;have e1:=kO (H:=H) (b:=o) (i:=at') (j:=at'+fl.length) (iL (CT (Nat.lt_of_le_of_lt ha ho) (by decide))) (iL (alP ho ha hl));have e2:cut o at' (at'+fl.length)=aE 1 fl:=by
   unfold cut;have l1:(aE 1 fl).length=fl.length:=by have:=jp (p:=0) (fl:=fl);rw[show ah 0=1 from rfl,Jy] at this;exact this
   rw[KY,hd,LC,<-l1,List.take_left]
  rw[e2] at e1;have e3:cT H .list [.bytes (aE 1 fl)]=.ok (.ref H.length) (H++[.list (aA fl)]):=by show R.ok (AV.ref H.length) (H++[.list ((aE 1 fl).map λc=>.int c.toNat)])=_;rw[afT λx z0=>hx x z0]
  exact d8 (aw (Xv rfl rfl) Xi (iH (DA _))) (Sc (aD (aM rfl (Xo (fT (Xv rfl rfl) (Xo (Xv rfl rfl)) (Xo (am (Xv rfl rfl) (Xv rfl rfl) rfl)) aj e1)) e3)) Sn)
 ·have e:ah p=2:=CQ hp;rw[e] at hd hl hx⊢;have fr:cT H .range [.int at',.int ((at':Int)+2*fl.length),.int 2]=.ok (.uV at' ((at':Int)+2*fl.length) 2) H:=by
   have f1:dr (at':Int)=true:=qT (CT (Nat.lt_of_le_of_lt ha ho) (by decide));have f2:dr ((at':Int)+2*fl.length)=true:=by have:=qT (k:=at'+2*fl.length) (alQ ho ha hl);rw[F8,Gz] at this;exact this
   exact aoj (by rw(occs:=.all) [f1,f2];decide)
  have w:W (ev (af n) (.comp (.bin .add (.bin .mul (.idx (.var 0) (.var 6)) (.tm 256)) (.idx (.var 0) (.bin .add (.var 6) (.tm 1)))) [6] true (.bi .range (.cons (.var 1) (.cons (.bin .add (.var 1) (.bin .mul (.tm 2) (.var 2))) (.cons (.tm 2) .nil)))) .nil .nil) 4 [.bytes o,.int at',.int fl.length,.int p,.int (2:Nat),.undef,.undef] H) (λv H'=>v=.ref H.length/\H'=H++[.list (aA fl)]) bC:=by
   have hi:ev (af n) (.bi .range (.cons (.var 1) (.cons (.bin .add (.var 1) (.bin .mul (.tm 2) (.var 2))) (.cons (.tm 2) .nil)))) 4 [.bytes o,.int at',.int fl.length,.int p,.int (2:Nat),.undef,.undef] H=.ok (.uV at' ((at':Int)+2*fl.length) 2) H:=aM rfl (ad (Xv rfl rfl) (ad (am (Xv rfl rfl) (am Xi (Xv rfl rfl) (fH (.inl (by decide)))) rfl) (ad Xi aj))) fr
   refine iA (Γ:=af n) (m:=3) (src:=.uV at' ((at':Int)+2*fl.length) 2) (H1:=H) (E:=bC) rfl hi (λj acc H'=>H'=H/\acc=aA (fl.take j)) fl.length ?_ ?_ (λj acc H' hj i=>?_) (λacc H' i=>?_) λacc H' i=>?_
   case refine_2=>exact⟨rfl,by rw[Em];rfl⟩
   ·show fl.length<=((at':Int)+2*fl.length-at').toNat;exact alR
   ·clear fr hi;obtain⟨rfl,rfl⟩:=i;have z9:=List.getElem?_eq_getElem hj;have hxj:=hx _ (Gb hj);(revert z9 hxj;refine gn (fl[j]) λx z9 hxj=>?_);obtain⟨t1,t2⟩:=aeH (r:=r) z9;rw[<-hd,Hi] at t1 t2;refine(ax (.int ((at'+j*2:Nat))) _ ?_ rfl (W.of (am (am (aR (Xv rfl rfl) (Xv rfl rfl) (rg t1)) Xi (fH (.inr (by decide)))) (aR (Xv rfl rfl) (am (Xv rfl rfl) Xi rfl) (rg (i:=at'+j*2+1) t2)) rfl) ⟨rfl,?_⟩))
    ·show some (if(at':Int)+j*2<(at':Int)+2*fl.length then some (AV.int ((at':Int)+j*2)) else none)=_
     rw[CM (alS hj)];rfl
    ·have e4:((CZ (x/256)).toNat:Int)*256+(CZ (x%256)).toNat=x:=by
      rw[sZ (by omega),sZ (Nat.mod_lt _ (by decide))];exact alU
     rw[e4,Fb,z9];unfold aA;rw[Dx];rfl
   ·show some (if(at':Int)+fl.length*2<(at':Int)+2*fl.length then _ else none)=_
    rw[CQ alV]
   ·clear fr hi;obtain⟨rfl,rfl⟩:=i;rw[FI];exact⟨by unfold aA al;rw[List.length_map];exact alW ho ha hl,rfl,rfl⟩
  (obtain⟨v,H',e5,zq3,zq4⟩:=w.ok;subst zq3;subst zq4);exact fN (aw (Xv rfl rfl) Xi (iH (by decide))) (Sc (aD e5) Sn)
theorem ajs{x:Nat}(h:∃a:AO,True):cT (H++[.list (aA (x::fl))]) .max [.ref H.length]=.ok (.int ((fl.map λx:Nat=>(x:Int)).foldl max (x:Int))) (H++[.list (aA (x::fl))]):=by show aJ R.bad (az _ H.length) _=_;rw[bq aC];show aJ R.bad (u9 _) _=_;rw[ace];rfl
theorem ac1{at':Nat}{x:Nat}{r:Bs}(ho:o.length<100000)(hd:o.drop at'=aE (ah p) (x::fl)++r)(ha:at'<=o.length)(hx:∀y∈x::fl,y<256^ah p)(hp:p<=16){k:Bool}(hk:decide ((2:Int)^p<=(fl.map λx:Nat=>(x:Int)).foldl max (x:Int))=k){t:R Fl}
  (c:(if k=true then R.exc 2 (H++[.list (aA (x::fl))]) else .ok (.ret (.ref H.length)) (H++[.list (aA (x::fl))]))=t):CK (af n) jW [.bytes o,.int at',.int (x::fl).length,.int p,.undef,.undef,.undef] H=t:=by
 have hl:=CN DO hd;rw[Dj,List.length_append,jp] at hl;have hs:1<=ah p:=by unfold ah;split<;>decide
 have hm:(x::fl).length<=(x::fl).length*ah p:=Jv _ hs;have e1:ev (af n) (.cmp (.bi .max (.cons (.var 5) .nil)) .ge (.bin .pow (.tm 2) (.var 3))) 4 [.bytes o,.int at',.int (x::fl).length,.int p,.int (ah p),.ref H.length,.undef] (H++[.list (aA (x::fl))])=.ok (.bool k) (H++[.list (aA (x::fl))]):=aw (aM rfl (ad (Xv rfl rfl) aj) (ajs ⟨.list [],trivial⟩)) (am Xi (Xv rfl rfl) (jG (ac8 hp))) (lK hk)
 refine Sc (ad8 rfl) (Sc (fN ((acx (alX ho ha hl hm)).trans (by rw[DD (alY ha hl)])) Sn) (Sc (ahU ho hd ha hx) ?_))
 cases k with
 |true=>exact(Se (d8 e1 (Se (fO rfl)))).trans c
 |false=>exact(Sc (fN e1 Sn) (Sr (cR (Xv rfl rfl)))).trans c
theorem akc{at':Nat}{r:Bs}(ho:o.length<100000)(hd:o.drop at'=aE (ah p) fl++r)(ha:at'<=o.length)(h0:fl≠[])(hp:p<=16)(hx:∀y∈fl,y<2^p):
  run (n+1) 9 [.bytes o,.int at',.int fl.length,.int p] H=.ok (.ref H.length) (H++[.list (aA fl)]):=by
 cases fl with
 |nil=>exact CP rfl h0
 |cons x fl=>
  have hb:2^p<=256^ah p:=by
   unfold ah
   split
   ·exact Gg (n:=2) (by decide) ‹p<=8›
   ·exact Gg (n:=2) (by decide) hp
  have cst:((2^p:Nat):Int)=(2:Int)^p:=FF 2 p;refine dQ (np:=4) (nv:=7) (bd:=jW) rfl rfl (ac1 ho hd ha (λy hy=>Nat.lt_of_lt_of_le (hx y hy) hb) hp (k:=false) (DD (IY.mpr (ahF ?_ λy hy=>?_))) rfl)
  ·have:=hx x (Dy ..);exact cst▸C8.mpr this
  ·(obtain⟨z,hz,zq2⟩:=Dz.mp hy;clear hy;subst zq2);have:=hx z (Dt _ hz);exact cst▸C8.mpr this
theorem aka{at':Nat}{r:Bs}(ho:o.length<100000)(hd:o.drop at'=aE (ah p) fl++r)(ha:at'<=o.length)(hp:p<=16)(hx:∀y∈fl,y<256^ah p){y:Nat}(hy:y∈fl)(hb:2^p<=y):
  run (n+1) 9 [.bytes o,.int at',.int fl.length,.int p] H=.exc 2 (H++[.list (aA fl)]):=by
 cases fl with
 |nil=>cases hy
 |cons x fl=>
  have cst:((2^p:Nat):Int)=(2:Int)^p:=FF 2 p;refine gv (np:=4) (nv:=7) (bd:=jW) rfl rfl (ac1 ho hd ha hx hp (k:=true) (Db (ahE ?_)) rfl)
  cases hy with
  |head=>exact .inl (FJ cst rfl hb)
  |tail _ hy=>exact .inr (ae y (Dz.mpr (ae y hy rfl)) (FJ cst rfl hb))
end
noncomputable def row(xs:List Int):AO:=.list (xs.map .int)
structure tJ(lo:Nat)(H:AH)(r:Nat)(R:List (List Int)):Prop where
 lo_le:lo<=r
 ex:∃ps,H[r]?=some (.list ps)/\ps.length=R.length/\∀(y:Nat)(xs:List Int),R[y]?=some xs->∃p,ps[y]?=some (.ref p)/\lo<=p/\H[p]?=some (row xs)
structure PD where
 w:Int
 h:Int
 rows:List (List Int)
def tG(lo:Nat)(H:AH)(v:AV)(D:PD):Prop:=∃r,v=.inst 0 [.int D.w,.int D.h,.ref r]/\tJ lo H r D.rows
structure tL(lo:Nat)(H:AH)(q:Nat)(P:List PD):Prop where
 lo_le:lo<=q
 ex:∃pl,H[q]?=some (.list pl)/\pl.length=P.length/\∀(k:Nat)(D:PD),P[k]?=some D->∃v,pl[k]?=some v/\tG lo H v D
def tR(lo:Nat)(H:AH)(v:AV)(m:Str)(p:Int)(P:List PD):Prop:=∃q,v=.inst 1 [.str m,.int p,.ref q]/\tL lo H q P
section
variable {r:Nat}{R:List (List Int)}{P:List PD}{D:PD}{p:Int}
theorem tJ.fr(h:tJ lo H r R)(f:Fr b H.length H H1)(hb:b<lo):tJ lo H1 r R:=by obtain⟨h0,ps,h1,h2,h3⟩:=h;refine⟨h0,ps,f.get (C2 (Nat.lt_of_lt_of_le hb h0)) h1,h2,λy xs e=>?_⟩;obtain⟨p,e1,e2,e3⟩:=h3 y xs e;exact(aI p e1 e2 (f.get (C2 (Nat.lt_of_lt_of_le hb e2)) e3))
theorem tG.fr(h:tG lo H v D)(f:Fr b H.length H H1)(hb:b<lo):tG lo H1 v D:=by obtain⟨r,h1,h2⟩:=h;exact(ae r h1 (h2.fr f hb))
theorem tL.fr(h:tL lo H q P)(f:Fr b H.length H H1)(hb:b<lo):tL lo H1 q P:=by obtain⟨h0,pl,h1,h2,h3⟩:=h;refine⟨h0,pl,f.get (C2 (Nat.lt_of_lt_of_le hb h0)) h1,h2,λk D e=>?_⟩;obtain⟨v,e1,e2⟩:=h3 k D e;exact(ae v e1 (e2.fr f hb))
theorem tR.fr(h:tR lo H v m p P)(f:Fr b H.length H H1)(hb:b<lo):tR lo H1 v m p P:=by obtain⟨q,h1,h2⟩:=h;exact(ae q h1 (h2.fr f hb))
theorem tJ.vi{vi:Nat}(h:tJ lo H r R)(l:vi<=lo):tJ vi H r R:=by obtain⟨h0,ps,h1,h2,h3⟩:=h;refine⟨Nat.le_trans l h0,ps,h1,h2,λy xs e=>?_⟩;obtain⟨p,e1,e2,e3⟩:=h3 y xs e;exact(aI p e1 (Nat.le_trans l e2) e3)
theorem tG.vi{vi:Nat}(h:tG lo H v D)(l:vi<=lo):tG vi H v D:=by obtain⟨r,h1,h2⟩:=h;exact(ae r h1 (h2.vi l))
theorem tL.vi{vi:Nat}(h:tL lo H q P)(l:vi<=lo):tL vi H q P:=by obtain⟨h0,pl,h1,h2,h3⟩:=h;refine⟨Nat.le_trans l h0,pl,h1,h2,λk D e=>?_⟩;obtain⟨v,e1,e2⟩:=h3 k D e;exact(ae v e1 (e2.vi l))
theorem tR.vi{vi:Nat}(h:tR lo H v m p P)(l:vi<=lo):tR vi H v m p P:=by obtain⟨q,h1,h2⟩:=h;exact(ae q h1 (h2.vi l))
theorem q9{l:List α}{x y:α}(h:(l++[x])[k]?=some y):(k<l.length/\l[k]?=some y)\/(k=l.length/\x=y):=by
 by_cases c:k<l.length
 ·rw[Ee c] at h;exact .inl ⟨c,h⟩
 ·rw[F9 (Dq c)] at h
  cases e:k-l.length with
  |zero=>rw[e] at h;cases h;exact .inr ⟨by exact(Hm (LG e) (Dq c)),rfl⟩
  |succ j=>rw[e] at h;cases h
theorem iZ{o:AO}(h:q<H.length):(H.set q o)[q]?=some o:=Fa h
theorem acZ{p y:Nat}{xs:List Int}(h:H[r]?=some (.list ps))(hr:ps[y]?=some (AV.ref p))(hp:H[p]?=some (row xs)):r≠p:=by rintro rfl;rw[h] at hp;unfold row at hp;cases hp;rw[De] at hr;cases e:xs[y]? <;>rw[e] at hr<;>cases hr
theorem tJ.push{xs:List Int}(h:tJ lo H r R)(hr:r≠rp)(hl:lo<=rp)(hp:H[rp]?=some (row xs)):∃ps,H[r]?=some (.list ps)/\ps.length=R.length/\tJ lo (H.set r (.list (ps++[AV.ref rp]))) r (R++[xs]):=by
 obtain⟨h0,ps,h1,h2,h3⟩:=h;refine(aI ps h1 h2 ⟨h0,_,iZ (cD h1),by rw[List.length_append,List.length_append,h2];rfl,λy ys e=>?_⟩);rcases q9 e with⟨c,e⟩ |⟨rfl,rfl⟩
 ·obtain⟨p,e1,e2,e3⟩:=h3 y ys e;exact(aI p ((Ee (by rw[h2];exact c)).trans e1) e2 ((DN (acZ h1 e1 e3)).trans e3))
 ·exact(aI rp (by rw[<-h2];exact Ga) hl ((DN hr).trans hp))
theorem tJ.set(h:tJ lo H r R){o:AO}(hq:q<lo):tJ lo (H.set q o) r R:=by obtain⟨h0,ps,h1,h2,h3⟩:=h;refine⟨h0,ps,(DN (CV (Nat.lt_of_lt_of_le hq h0))).trans h1,h2,λy xs e=>?_⟩;obtain⟨p,e1,e2,e3⟩:=h3 y xs e;exact(aI p e1 e2 ((DN (CV (Nat.lt_of_lt_of_le hq e2))).trans e3))
theorem tG.set(h:tG lo H v D){o:AO}(hq:q<lo):tG lo (H.set q o) v D:=by obtain⟨r,h1,h2⟩:=h;exact(ae r h1 (h2.set hq))
structure vo(q:Nat)(H:AH)(P:List PD):Prop where
 ex:∃pl,H[q]?=some (.list pl)/\pl.length=P.length/\∀(k:Nat)(D:PD),P[k]?=some D->∃v,pl[k]?=some v/\tG (q+1) H v D
theorem vo.fr(h:vo q H P)(f:Fr q H.length H H1)(hq:H1[q]?=H[q]?):vo q H1 P:=by obtain⟨pl,h1,h2,h3⟩:=h;refine⟨pl,hq.trans h1,h2,λk D e=>?_⟩;obtain⟨v,e1,e2⟩:=h3 k D e;exact(ae v e1 (e2.fr f (D6 _)))
theorem vo.push(h:vo q H P)(hv:tG (q+1) H v D):∃pl,H[q]?=some (.list pl)/\pl.length=P.length/\vo q (H.set q (.list (pl++[v]))) (P++[D]):=by
 obtain⟨pl,h1,h2,h3⟩:=h;refine(aI pl h1 h2 ⟨_,iZ (cD h1),by rw[List.length_append,List.length_append,h2];rfl,λk E e=>?_⟩);rcases q9 e with⟨c,e⟩ |⟨rfl,rfl⟩
 ·obtain⟨u,e1,e2⟩:=h3 k E e;exact(ae u ((Ee (by rw[h2];exact c)).trans e1) (e2.set (D6 _)))
 ·exact(ae v (by rw[<-h2];exact Ga) (hv.set (D6 _)))
theorem vo.at'(h:vo q H P)(hl:lo<=q):tL lo H q P:=by obtain⟨pl,h1,h2,h3⟩:=h;refine⟨hl,pl,h1,h2,λk D e=>?_⟩;obtain⟨v,e1,e2⟩:=h3 k D e;exact(ae v e1 (e2.vi (LL hl)))
end
section
theorem iE(h:H[q]?=some (.list xs))(hl:xs.length<al):dX H .append (.ref q) [v]=.ok .none (H.set q (.list (xs++[v]))):=by show aJ R.bad (az H q) _=_;rw[bq h];exact CM hl
theorem iD(h:H[q]?=some (.list xs)):l9 H .append (.ref q)=true:=by show aJ false (az H q) _=_;rw[bq h];rfl
end
theorem abR{α:Type}{st:Nat}(hs:0<st):∀{n:Nat}{xs:List α}{i:Nat},xs.length<=n->(every st n xs)[i]?=xs[i*st]?
 |0,xs,i,h=>by obtain rfl:=KZ (LM.mp h);rfl
 |n+1,[],i,h=>rfl
 |n+1,x::r,0,h=>by rw[GO];rfl
 |n+1,x::r,i+1,h=>by show(every st n (r.drop (st-1)))[i]?=_;rw[abR hs (by rw[Dj];rw[Di] at h;exact Nat.le_trans (DQ ..) (Hn h)),Hi,Fg];obtain⟨t,rfl⟩:=Ju (C2 hs);rw[show i*(t+1)+(t+1)=(t+1-1+i*(t+1))+1 by exact om6 hs,K9]
noncomputable def au(f:Nat->Nat->Nat->Nat)(w h d:Nat):List Nat:=(CS (h*w*d)).map λi=>f (i%d) (i/d/w) (i/d%w)
noncomputable def fF(f:Nat->Nat->Nat->Nat)(w k y:Nat):List Nat:=(CS w).map λx=>f k y x
theorem fZ:(au f w h d).length=h*w*d:=by unfold au;rw[List.length_map,DI]
theorem ab1{y x:Nat}(hk:k<d)(hx:x<w)(hy:y<h):(au f w h d)[(y*w+x)*d+k]?=some (f k y x):=by
 have h1:(y*w+x)*d+k<h*w*d:=by
  have a:y*w+x+1<=h*w:=by have:(y+1)*w<=h*w:=Eh w hy;rw[Fg] at this;exact Nat.lt_of_lt_of_le (Fs hx _) this
  have b:=Eh d a;rw[Fg] at b;exact Nat.lt_of_lt_of_le (Fs hk _) b
 unfold au;rw[De,ET h1];have e1:((y*w+x)*d+k)%d=k:=by rw[Ev,LB,Hp hk]
 have e2:((y*w+x)*d+k)/d=y*w+x:=by rw[Ev,LA _ _ (Nat.lt_of_le_of_lt (Ec _) hk),GJ hk,EV]
 have e3:(y*w+x)/w=y:=by rw[Ev,LA _ _ (Nat.lt_of_le_of_lt (Ec _) hx),GJ hx,EV]
 have e4:(y*w+x)%w=x:=by rw[Ev,LB,Hp hx]
 show some (f _ _ _)=_;rw[e1,e2,e3,e4]
theorem getElem?_ints {l:List Nat}:(aA l)[i]?=(l[i]?).map λx:Nat=>AV.int x:=De
theorem ahk{y:Nat}(hk:k<d)(hy:y<h):
  every d (aA (au f w h d)).length (cut (aA (au f w h d)) (y*w*d+k) (y*w*d+k+w*d))=aA (fF f w k y):=by
 have hd:0<d:=Nat.lt_of_le_of_lt (Ec _) hk;apply Ie;intro i;rw[abR hd (by unfold cut;rw[Dj,Dn];exact Nat.le_trans (DQ ..) (D9 ..)),getElem?_ints];unfold cut fF;rw(occs:=.all) [Hi,Jl,De]
 by_cases c:i<w
 ·have:i*d+d<=w*d:=by rw[<-Fg];exact Eh d c
  rw[CM (ake hk this),ET c,getElem?_ints,show y*w*d+k+i*d=(y*w+i)*d+k by rw[Lz];exact akj,ab1 hk c hy];rfl
 ·have:w*d<=i*d:=Eh d (Dq c);rw[CQ (Ey.mpr (C4 this _)),Dw (by rw[DI];exact Dq c)];rfl
variable {P:List PD}{at' vi:Nat}{D:PD}
def gk(f:Nat->Nat->Nat->Nat)(w k y:Nat):List Int:=(fF f w k y).map λx:Nat=>(x:Int)
def iX(f:Nat->Nat->Nat->Nat)(w h k:Nat):PD:=⟨w,h,(CS h).map (gk f w k)⟩
def bJ(f:Nat->Nat->Nat->Nat)(w h d:Nat):List PD:=(CS d).map (iX f w h)
theorem adS{l:List Nat}:AO.list (aA l)=row (l.map λx:Nat=>(x:Int)):=by unfold row aA;rw[Gd];rfl
theorem aew{g:Nat->α}(h:k<d):((CS d).map g).take (k+1)=((CS d).map g).take k++[g k]:=by rw[Fb,De,ET h];rfl
theorem Fr.any{b' m:Nat}(f:Fr b' m H H1)(h:m<=b'):Fr b m H H1:=⟨f.le,λp h1 Z=>f.at' p h1 (CV (Nat.lt_of_lt_of_le h1 h))⟩
section
theorem apy{l t:Nat}(h:H[s]?=some (.list xs))(hl:l<1000000000)(hu:u<1000000000)(ht:0<t)(ht':t<1000000000):dB H (.ref s) [.int l] [.int u] [.int t]=.ok (.ref H.length) (H++[.list (every t xs.length (cut xs l u))]):=by
 have g:∀l u t:Int,(cg l/\cg u/\0<t/\t<ji)->dB H (.ref s) [.int l] [.int u] [.int t]=.ok (.ref H.length) (H++[.list (every t.toNat xs.length (cut xs l.toNat u.toNat))]):=λl u t q=>by show aJ R.bad (az H s) _=_;rw[bq h];exact CM q
 exact g l u t (bY (iL hl) (iL hu) (GY.mpr ht) (by unfold ji;exact akA ht ht'))
theorem acu(h:H[s]?=some (.list xs)):cT H .list [.ref s]=.ok (.ref H.length) (H++[.list xs]):=by show aJ R.bad (az H s) _=_;rw[bq h];rfl
theorem aob(hs:H[s]?=some (.list (aA (au f w h d))))(hw:w<=100)(hh:h<=100)(hd:d<=100)(AW:0<d):
  ∃H',run (n+1) 7 [.ref s,.int w,.int h,.int d] H=.ok (.ref H.length) H'/\Fr H.length H.length H H'/\vo H.length H' (bJ f w h d):=by
 have y0:=cD hs;have bnd:∀y,y<h->y*w*d<=1000000:=λy hy=>Nat.le_trans (Ez (Ez (show y<=100 by exact Nat.le_trans (CU hy) hh) hw) hd) (by decide);have as5:w*d<=10000:=Ez hw hd;have w0:=dH (n:=n) (k:=7) (np:=4) (nv:=9) (bd:=qm) (vs:= [.ref s,.int w,.int h,.int d]) (H:=H) (Q:=λv H'=>v=.ref H.length/\Fr H.length H.length H H'/\vo H.length H' (bJ f w h d)) (E:=bC) rfl rfl (by
  show W (CK (af n) qm [.ref s,.int w,.int h,.int d,.undef,.undef,.undef,.undef,.undef] H) _ _;refine aG (aD (bB aj (by decide))) (dk rfl (aM rfl (ad (Xv rfl rfl) aj) (eO (Nat.lt_of_le_of_lt hd (by decide)))) (λk ρ Hc=>(∃a5 a6 a7 a8,ρ=[.ref s,.int w,.int h,.int d,.ref H.length,a5,a6,a7,a8])/\Fr H.length H.length H Hc/\H.length<Hc.length/\vo H.length Hc ((bJ f w h d).take k)) d ?_ ?_ (λk ρ Hc Gq Nq hk i uL kq=>?_) (λρ Hc i=>?_) λρ Hc i=>?_)
  ·show d<=((d:Int)-0).toNat;exact akH hd AW
  ·exact(bY (iQ _ _ _ _ rfl) (.app (Nat.le_refl _)) (by rw[List.length_append];exact D6 _) ⟨[],aC,by rw[Em];rfl,λk D e=>by rw[Em] at e;cases e⟩)
  ·(revert i;refine r_aaa λzq0 fr lt gr=>?_;obtain⟨a5,a6,a7,a8,rfl⟩:=zq0);refine(kq (.int k) _ (by rw[cr,CM hk]) rfl (aG (aD (bB aj (by decide))) (dk rfl (aM rfl (ad (Xv rfl rfl) aj) (eO (mj hh))) (λy ρ Hd=>(∃a7 a8,ρ=[.ref s,.int w,.int h,.int d,.ref H.length,.int k,.ref Hc.length,a7,a8])/\Fr Hc.length Hc.length Hc Hd/\Hc.length<Hd.length/\tJ (H.length+1) Hd Hc.length (((CS h).map (gk f w k)).take y)) h ?_ ?_ (λy ρ Hd Gq Nq hy i uL kq=>?_) (λρ Hd i=>?_) λρ Hd i=>?_)))
   ·show h<=((h:Int)-0).toNat;exact ml hh
   ·exact(bY (cK _ _ rfl) (.app (Nat.le_refl _)) (by rw[List.length_append];exact D6 _) ⟨lt,[],aC,by rw[Em];rfl,λk D e=>by rw[Em] at e;cases e⟩)
   ·(revert i;refine r_aaa λzq0 zU zn ra=>?_;obtain⟨a7,a8,rfl⟩:=zq0);have hsd:Hd[s]?=some (.list (aA (au f w h d))):=zU.gt (CT y0 lt) (CV (CT y0 lt)) (fr.gt (Nat.lt_of_succ_le y0) (CV y0) hs);have b1:=bnd y hy;have e1:=apy (l:=y*w*d+k) (u:=y*w*d+k+w*d) hsd (Nat.lt_of_le_of_lt (Dd b1 (Nat.le_trans (CU hk) hd)) (by decide)) (Nat.lt_of_le_of_lt (Dd (Dd b1 (Nat.le_trans (CU hk) hd)) as5) (by decide)) AW (Nat.lt_of_le_of_lt hd (by decide));rw[ahk hk hy] at e1;simp only[F8,Gz] at e1;have ra2:=ra.fr (Fr.app (b:=H.length) (Nat.le_refl _) (l:= [.list (aA (fF f w k y))]++[.list (aA (fF f w k y))])) (D6 _);rw[<-List.append_assoc] at ra2;have hp:(Hd++[AO.list (aA (fF f w k y))]++[AO.list (aA (fF f w k y))])[(Hd++[AO.list (aA (fF f w k y))]).length]?=some (row (gk f w k y)):=by rw[aC,adS];rfl
    have l3:(Hd++[AO.list (aA (fF f w k y))]).length=Hd.length+1:=by rw[List.length_append];rfl
    obtain⟨ps,g1,g2,g3⟩:=ra2.push (l3▸CV (EI zn)) (l3▸LL (CT lt zn)) hp;rw[<-aew hy] at g3;have hl:ps.length<al:=by rw[g2,Dn,List.length_map,DI];unfold al;exact Nat.lt_of_le_of_lt (Nat.le_trans (D9 ..) hh) (by decide)
    refine(kq (.int y) _ (by rw[cr,CM hy]) rfl (aG (aD (am (am (am (Xv rfl rfl) (Xv rfl rfl) (fH (.inr (by rw[FZ];unfold cI;exact alo hw)))) (Xv rfl rfl) (fH (.inr (by rw[FZ];unfold cI;exact adm hd AW)))) (Xv rfl rfl) rfl)) (aG (eV (cS rfl (Xv rfl rfl) (iD (ra.ex.choose_spec.1)) (Xo (aM rfl (Xo (fT (Xv rfl rfl) (Xo (Xv rfl rfl)) (Xo (am (Xv rfl rfl) (am (Xv rfl rfl) (Xv rfl rfl) (fH (.inr (by rw[FZ];unfold cI;exact adm hd AW)))) rfl)) (Xo (Xv rfl rfl)) e1)) (acu aC))) (iE g1 hl)) rfl) (bA (uL _ _ (bY (cK _ _ rfl) ?_ ?_ g3))))))
    ·exact(zU.trans (by rw[List.append_assoc];exact Fr.app (CU zn))).trans (Fr.put (.inl rfl))
    ·rw[acr,List.length_append,l3];exact EI (EI zn)
   ·rw[cr,CQ (CY _)]
   ·(revert i;refine r_aaa λzq0 zU zn ra=>?_;obtain⟨a7,a8,rfl⟩:=zq0);rw[EH (by rw[List.length_map,DI];exact Nat.le_refl _)] at ra;have gr2:=gr.fr (zU.any (Nat.le_refl _)) (zU.at' _ lt (CV lt));have pa:tG (H.length+1) Hd (.inst 0 [.int w,.int h,.ref Hc.length]) (iX f w h k):=(ae _ rfl ra);obtain⟨pl,g1,g2,g3⟩:=gr2.push pa;rw[show(bJ f w h d).take k++[iX f w h k]=(bJ f w h d).take (k+1) from(aew hk).symm] at g3;have hl:pl.length<al:=by
     rw[g2,Dn];unfold al;exact Nat.lt_of_le_of_lt (Nat.le_trans (Gf ..) (Nat.le_trans (CU hk) hd)) (by decide)
    exact aG (eV (cS rfl (Xv rfl rfl) (iD g1) (Xo (jf rfl (ad (Xv rfl rfl) (ad (Xv rfl rfl) (ad (Xv rfl rfl) aj))) rfl)) (iE g1 hl)) rfl) (bA (uL _ _ (bY (iQ _ _ _ _ rfl) ((fr.trans ((zU.less (CU lt)).any (CU lt))).trans (Fr.put (.inl rfl))) (by rw[acr];exact CT lt zn) g3)))
  ·rw[cr,CQ (CY _)]
  ·(revert i;refine r_aaa λzq0 fr lt gr=>?_;obtain⟨a5,a6,a7,a8,rfl⟩:=zq0);rw[EH (by unfold bJ;rw[List.length_map,DI];exact Nat.le_refl _)] at gr;exact dG (Xv rfl rfl) ⟨rfl,fr,gr⟩)
 obtain⟨v,H',e,rfl,h1,h2⟩:=w0.ok;exact(aI H' e h1 h2)
end
noncomputable def cN(es:List (Bs×Bs))(k:Bs):Option Bs:=(es.find? λe=>e.1==k).map (·.2)
theorem aqq{k v:Bs}(h:cN es k=some v):c7 es k=true:=by
 unfold cN at h;unfold c7
 cases e:es.find? λe=>e.1==k with
 |none=>rw[e] at h;cases h
 |some x=>exact Jc.mpr (ae x (Li e) (K5 (p:=λe:Bs×Bs=>e.1==k) e))
theorem abZ{k:Bs}:((es.map λe=>(e.1,AV.bytes e.2)).find? λe=>e.1==k).map (·.2)=(cN es k).map .bytes:=by unfold cN;rw[K2];show((es.find? _).map _).map _=((es.find? _).map _).map _;rw[Iw,Iw];rfl
section
variable {t:Nat}{k v:Bs}
theorem ny(h:H[t]?=some (tab es)):dv H t=some (es.map λe=>(e.1,AV.bytes e.2)):=by unfold dv;rw[h];rfl
theorem ajw(h:H[t]?=some (tab es)):kn H (.bytes k) (.ref t)=some (c7 es k):=by show aJ none (dv H t) _=_;rw[ny h];exact CN some s6
theorem aj1(h:H[t]?=some (tab es))(hv:cN es k=some v):bj H .uo (.bytes k) (.ref t)=some false:=by show(kn H (.bytes k) (.ref t)).map (!·)=_;rw[ajw h,aqq hv];rfl
theorem aix(h:H[t]?=some (tab es))(hv:cN es k=some v):eJ H (.ref t) (.bytes k)=some (.bytes v):=by show aJ none (dv H t) _=_;rw[ny h];exact abZ.trans (by rw[hv];rfl)
theorem ahX{d:AV}(h:H[t]?=some (tab es)):dX H .get (.ref t) [.bytes k,d]=.ok (((cN es k).map AV.bytes).getD d) H:=by show aJ R.bad (dv H t) _=_;rw[ny h];exact CN (λx:Option AV=>R.ok (x.getD d) H) abZ
theorem ahW(h:H[t]?=some (tab es)):l9 H .get (.ref t)=true:=by show aJ false (dv H t) _=_;rw[ny h];rfl
end
structure Told(es:List (Bs×Bs))(nums:List Int):Prop where
 num:∀j,j<4->∃k v,mc[j]?=some (.bytes k)/\cN es k=some v/\iT v=true/\v.length<=9/\nums[j]?=some (dec v)
 len:nums.length=4
def my:tW:=match fV with
 | .cons _ (.cons _ (.cons _ (.cons _ (.cons _ r))))=>r
 |_=>.nil
theorem aiI:aS H (.tup vs) j=some vs[j]? :=rfl
section
variable {H0:AH}{nums:List Int}
theorem adH(h:o.take 2=aq):ev (af n) (.cmp (.bi .bytes (.cons (.slice (.var 0) .nil (.cons (.tm 2) .nil) .nil) .nil)) .ne (.tu [80,55])) 4 ([.bytes o]++CR 10 .undef) H=.ok (.bool false) H:=by
 have e:dB H (.bytes o) [] [.int 2] []=.ok (.bytes aq) H:=by show av R.bad (cg 2) (R.ok (AV.bytes (o.take 2)) H)=_;unfold av;rw[CM (by decide),h]
 exact aw (aM rfl (Xo (fT (Xv rfl rfl) aj (Xo Xi) aj e)) qu) Xy (jm rfl)
theorem ajo{t:Nat}(h2:o.take 2=aq)(Aq:run n 16 [.bytes o] H0=.ok (.tup [.ref t,.int at']) H)(hn:∃n',n=n'+1)(ht:H[t]?=some (tab es))(T:Told es nums){w h d m:Int}(atp:nums=[w,h,d,m])
  (k:∀H' q a4,Fr H.length H.length H H'->W (CK (af n) my [.bytes o,.ref t,.int at',.ref q,a4,.int w,.int h,.int d,.int m,.undef,.undef] H') Q E):
  W (CK (af n) fV ([.bytes o]++CR 10 .undef) H0) Q E:=by
 obtain⟨n,rfl⟩:=hn;have tl:=cD ht;refine fQ (adH h2) (aG (dF rfl (aK (ad (Xv rfl rfl) aj) Aq) rfl) (aG (aD (bB aj (by decide))) (dk rfl Xg (λj ρ Hc=>(∃a4,ρ=[.bytes o,.ref t,.int at',.ref H.length,a4,.undef,.undef,.undef,.undef,.undef,.undef])/\Fr H.length H.length H Hc/\Hc[H.length]?=some (.list ((nums.take j).map .int))) 4 (Nat.le_refl 4) ?_ (λj ρ Hc Gq Nq hj i uL kq=>?_) (λρ Hc i=>rfl) λρ Hc i=>?_)))
 ·exact⟨⟨_,rfl⟩,.app (Nat.le_refl _),by rw[Em];exact aC⟩
 ·(revert i;refine r_aa λzq0 fr hq=>?_;obtain⟨a4,rfl⟩:=zq0);obtain⟨kk,v,n1,n2,n3,n4,n5⟩:=T.num j hj;have htc:=fr.gt tl (CV tl) ht;obtain⟨x,e⟩:=aj4 (n:=n) (H:=Hc) n3 n4;have hq2:(Hc++[x])[H.length]?=some (.list ((nums.take j).map .int)):=aH hq;refine(kq _ _ (aiI.trans (CN some n1)) rfl (fQ (aw (Xv rfl rfl) (Xv rfl rfl) (aj1 htc n2)) (aG (eV (cS rfl (Xv rfl rfl) (iD hq) (Xo (aK (Xo (aR (Xv rfl rfl) (Xv rfl rfl) (aix htc n2))) e)) (iE hq2 ?_)) rfl) (bA (uL _ _ (bT ⟨_,rfl⟩ ?_ ?_))))))
  ·rw[List.length_map,Dn];unfold al;exact Nat.lt_of_le_of_lt (Nat.le_trans (Gf ..) (CU hj)) (by decide)
  ·exact(fr.trans (.app fr.le)).trans (.put (.inl rfl))
  ·rw[iZ (cD hq2),Fb,n5,Dx];rfl
 ·(revert i;refine r_aa λzq0 fr hq=>?_;obtain⟨a4,rfl⟩:=zq0);clear T;subst atp;exact aG (dF rfl (Xv rfl rfl) (by
   show(jA Hc (.ref H.length)).bind _=_;rw[show jA Hc (.ref H.length)=_ from bq hq];rfl)) (k Hc H.length a4 fr)
def dW(d:Nat):Bs:=if d=1 then pW else if d=3 then pX else pV
noncomputable def br(d:Nat):Str:=if d=1 then "grey" else if d=3 then "rgb" else "cmyk"
def xl(d:Nat):Prop:=d=1\/d=3\/d=4
theorem rm(h:xl d):eJ H (.gd 3) (.int d)=some (.bytes (dW d)):=by rcases h with rfl |rfl |rfl<;>rfl
theorem ajA(h:xl d):eJ H (.gd 4) (.int d)=some (.str (br d)):=by rcases h with rfl |rfl |rfl<;>rfl
theorem agP(h:xl d):bj H .uo (.int d) (.gd 3)=some false:=by rcases h with rfl |rfl |rfl<;>rfl
theorem agQ{d:Int}(h:d∈[0,2,5]):bj H .uo (.int d) (.gd 3)=some true:=by
 rcases CX.mp h with rfl |h
 ·rfl
 ·rcases CX.mp h with rfl |h
  ·rfl
  ·rcases CX.mp h with rfl |h
   ·rfl
   ·cases h
variable {t:Nat}
theorem aou{w h d m:Int}(hb:((decide (1<=w)&&decide (w<=65535))&&(decide (1<=h)&&decide (h<=65535)))=false)(e:E 2 H):W (CK (af (n+1)) my [.bytes o,.ref t,.int at',.ref q,a4,.int w,.int h,.int d,.int m,.undef,.undef] H) Q E:=by have s:=ad6 (n:=n) (H:=H) (x:=w) (y:=h);rw[hb] at s;exact gB (.xG (by rw[E5.expr];exact X2 (aK (ad (Xv rfl rfl) (ad (Xv rfl rfl) aj)) s)) e)
def oP:tW:=match my with
 | .cons _ r=>r
 |_=>.nil
theorem sg{w h d m:Int}(hb:((decide (1<=w)&&decide (w<=65535))&&(decide (1<=h)&&decide (h<=65535)))=true)(k:W (CK (af (n+1)) oP [.bytes o,.ref t,.int at',.ref q,a4,.int w,.int h,.int d,.int m,.undef,.undef] H) Q E):W (CK (af (n+1)) my [.bytes o,.ref t,.int at',.ref q,a4,.int w,.int h,.int d,.int m,.undef,.undef] H) Q E:=by have s:=ad6 (n:=n) (H:=H) (x:=w) (y:=h);rw[hb] at s;exact aG (eV (aK (ad (Xv rfl rfl) (ad (Xv rfl rfl) aj)) s) rfl) k
theorem aoq{w h d m:Int}(hd:d∈[0,2,5])(e:E 2 H):W (CK (af (n+1)) oP [.bytes o,.ref t,.int at',.ref q,a4,.int w,.int h,.int d,.int m,.undef,.undef] H) Q E:=gB (.xG (d8 (bW (dm (aw (Xv rfl rfl) Xg (agQ hd)))) (Se (fO rfl))) e)
def oR:tW:=match oP with
 | .cons _ r=>r
 |_=>.nil
theorem adP{w h m:Int}(hd:xl d)(ht:H[t]?=some (tab es))(hk:∀v,cN es bX=some v->v=dW d)(k:W (CK (af (n+1)) oR [.bytes o,.ref t,.int at',.ref q,a4,.int w,.int h,.int d,.int m,.undef,.undef] H) Q E):W (CK (af (n+1)) oP [.bytes o,.ref t,.int at',.ref q,a4,.int w,.int h,.int d,.int m,.undef,.undef] H) Q E:=by
 have g:=ahX (H:=H) (k:=bX) (d:=.bytes (dW d)) ht;have g2:((cN es bX).map AV.bytes).getD (.bytes (dW d))=.bytes (dW d):=by
  cases e:cN es bX with
  |none=>rfl
  |some v=>rw[hk v e];rfl
 rw[g2] at g;exact fQ (bW (bx (aw (Xv rfl rfl) Xg (agP hd)) (bx (aw (cS rfl (Xv rfl rfl) (ahW ht) (ad Xy (Xo (aR Xg (Xv rfl rfl) (rm hd)))) g) (aR Xg (Xv rfl rfl) (rm hd)) (jm (r:=false) (DA _))) fS))) k
theorem aos{w h d m:Int}(hm:m∈[0,1,131071,2,6,254,65534])(e:E 2 H):W (CK (af (n+1)) oR [.bytes o,.ref t,.int at',.ref q,a4,.int w,.int h,.int d,.int m,.undef,.undef] H) Q E:=gB (.xG (aai (aK (ad (Xv rfl rfl) aj) (aog hm))) e)
def oU:tW:=match oR with
 | .cons _ r=>r
 |_=>.nil
theorem aot{w h d:Int}(hp:2<=p/\p<=16)(k:W (CK (af (n+1)) oU [.bytes o,.ref t,.int at',.ref q,a4,.int w,.int h,.int d,.int (2^p-1),.int p,.undef] H) Q E):W (CK (af (n+1)) oR [.bytes o,.ref t,.int at',.ref q,a4,.int w,.int h,.int d,.int (2^p-1),.undef,.undef] H) Q E:=aG (aD (aK (ad (Xv rfl rfl) aj) (aoh hp))) k
theorem acF(hd:d<100000)(hh:h<100000)(h5:ρ[5]?=some (.int w))(h6:ρ[6]?=some (.int h))(h7:ρ[7]?=some (.int d)):ev (af n) (.bin .mul (.bin .mul (.var 5) (.var 6)) (.var 7)) 4 ρ H=.ok (.int ((h*w*d:Nat))) H:=by have e:=am (Γ:=af n) (m:=4) (H:=H) (o:=.mul) (am (o:=.mul) (Xv h5 rfl) (Xv h6 rfl) (fH (.inr (by rw[FZ];unfold cI;exact CT hh (by decide))))) (Xv h7 rfl) (fH (.inr (by rw[FZ];unfold cI;exact CT hd (by decide))));rw[Gz,Gz,KD (h:Int)];exact e
theorem adQ{m:Int}(hd:d<100000)(hh:h<100000)(e9:run (n+1) 9 [.bytes o,.int ((at'+1:Nat)),.int ((h*w*d:Nat)),.int p] H=.exc j H0)(e:E j H0):W (CK (af (n+1)) oU [.bytes o,.ref t,.int at',.ref q,a4,.int w,.int h,.int d,.int m,.int p,.undef] H) Q E:=gB (.xG (aai (aK (ad (Xv rfl rfl) (ad (am (Xv rfl rfl) Xi rfl) (ad (acF hd hh rfl rfl rfl) (ad (Xv rfl rfl) aj)))) e9)) e)
theorem aor{m:Int}(hw:w<=100)(hh:h<=100)(hd:xl d)(e9:run (n+1) 9 [.bytes o,.int ((at'+1:Nat)),.int ((h*w*d:Nat)),.int p] H=.ok (.ref H.length) (H++[.list (aA (au f w h d))]))
  (e:∀v H',Fr H.length H.length H H'->tR H.length H' v (br d) p (bJ f w h d)->Q (.ret v) H'):W (CK (af (n+1)) oU [.bytes o,.ref t,.int at',.ref q,a4,.int w,.int h,.int d,.int m,.int p,.undef] H) Q E:=by
 have BQ:0<d/\d<=4:=by clear e9 e;rcases hd with rfl |rfl |rfl<;>decide
 obtain⟨H',r7,fr,gr⟩:=aob (n:=n) (s:=H.length) (H:=H++[.list (aA (au f w h d))]) aC hw hh (alT BQ) BQ.1;have l1:H.length<=(H++[AO.list (aA (au f w h d))]).length:=by rw[List.length_append];exact Nat.le_add_right _ _
 refine aG (aD (aK (ad (Xv rfl rfl) (ad (am (Xv rfl rfl) Xi rfl) (ad (acF (Nat.lt_of_le_of_lt BQ.2 (by decide)) (al0 hh) rfl rfl rfl) (ad (Xv rfl rfl) aj)))) e9)) ?_;refine dG (jf rfl (ad (aR Xg (Xv rfl rfl) (ajA hd)) (ad (Xv rfl rfl) (Xo (aK (ad (Xv rfl rfl) (ad (Xv rfl rfl) (ad (Xv rfl rfl) (ad (Xv rfl rfl) aj)))) r7)))) rfl) ?_;exact e _ H' ((Fr.app (Nat.le_refl _)).trans ((fr.less l1).any l1)) (ae _ rfl (gr.at' l1))
end
noncomputable def ak:List (Bs×Bs)->Bs->Bs
 |[],r=>r
 |(g,w)::T,r=>g++(w++ak T r)
noncomputable def ba:List (Bs×Bs)->Nat
 |[]=>0
 |(g,w)::T=>g.length+w.length+ba T
theorem ahx{w r:Bs}:ak ((g,w)::T) r=g++(w++ak T r):=rfl
theorem ai4{w:Bs}:ba ((g,w)::T)=g.length+w.length+ba T:=rfl
noncomputable def jN:List (Bs×Bs)->List Bs
 |[]=>[aQ]
 |(n,v)::ws=>n::v::jN ws
def gQ:List (Bs×Bs)->List (Bs×Bs)->Prop
 |[],_=>True
 |(n,v)::ws,es=>dt n=true/\c7 es n=false/\es.length<=900/\bS v=true/\gQ ws (es++[(n,v)])
theorem iM:∀{T:List (Bs×Bs)}{r:Bs},ak T r=ak T []++r:=by
 intro zi
 induction zi with
 |nil=>
 exact @λr=>rfl
 |cons zp T ih=>
 obtain⟨g,w⟩:=zp;exact @λr=>by show g++(w++ak T r)=(g++(w++ak T []))++r;rw[ih,List.append_assoc,List.append_assoc]
theorem im:∀{T:List (Bs×Bs)}{r:Bs},(ak T r).length=ba T+r.length:=by
 intro zi
 induction zi with
 |nil=>
 exact @λr=>(EV _).symm
 |cons zp T ih=>
 obtain⟨g,w⟩:=zp;exact @λr=>by show(g++(w++ak T r)).length=g.length+w.length+ba T+r.length;rw[List.length_append,List.length_append,ih];exact al7
theorem ab4:∀{q:List d7}{r:Bs},ak (ez q) r=du q r:=by
 intro zi
 induction zi with
 |nil=>
 exact @λr=>rfl
 |cons zp q ih=>
 obtain⟨g,v,g',m⟩:=zp;exact @λr=>by show g++(v++(g'++(m++ak (ez q) r)))=_;rw[ih];rfl
theorem acs:∀{q:List d7},ba (ez q)=eK q:=by
 intro zi
 induction zi with
 |nil=>
 exact rfl
 |cons zp q ih=>
 obtain⟨g,v,g',m⟩:=zp;exact by
  show g.length+v.length+(g'.length+m.length+ba (ez q))=_;rw[ih,nV,C3 (g.length+v.length)]
theorem ahw{n:Bs}(h:dt n=true):bS n=true:=by
 have a:([aW,aV,aZ,aU,bX,aQ].all bS)=true:=by decide
 exact C1.mp a n (qW (.inl h))
theorem sV:∀(ws es T:List (Bs×Bs)),T.map (·.2)=jN ws->(∀t∈T,wU t.1)->gQ ws es->
  ∃g0 n0 q,T=(g0,n0)::ez q/\wU g0/\bS n0=true/\gS q n0 es/\kH q n0=ws/\q.length=ws.length:=by
 intro zi
 induction zi with
 |nil=>
 exact @λes T h hg Z=>by
  cases T with
  |nil=>cases h
  |cons t T=>
   cases T with
   |cons _ _=>exact nomatch (Ha h).2
   |nil=>obtain⟨g,w⟩:=t;obtain rfl:w=aQ:=(Ha h).1;exact(ce g aQ [] rfl (hg _ (Dy ..)) (by decide) (bT rfl rfl rfl))
 |cons zp ws ih=>
 obtain⟨n,v⟩:=zp;exact @λes T h hg hn=>by
  cases T with
  |nil=>cases h
  |cons t T=>
   cases T with
   |nil=>cases h
   |cons t' T=>
    obtain⟨g,w⟩:=t;obtain⟨g',w'⟩:=t';injection h with h1 h2;injection h2 with h2 h3;cases h1;cases h2;(refine o_eeeaaa (ih _ T h3 (λt ht=>hg t (Dt _ (Dt _ ht))) hn.2.2.2.2) λg0 n0 q zq3 a1 a2=>r_aa λa3 a4 a5=>?_;clear h3;subst zq3);refine(ce g _ ((g',_,g0,n0)::q) rfl (hg _ (Dy ..)) (ahw hn.1) (bT (dy hn.1 hn.2.1 hn.2.2.1 (hg _ (Dt _ (Dy ..))) hn.2.2.2.1 a1 (bE a2 a3)) ?_ ?_))
    ·show(_,_)::kH q n0=_;rw[a4]
    ·rw[Di,Di,a5]
theorem s5{n k v:Bs}:c7 (es++[(n,v)]) k=(c7 es k||n==k):=by unfold c7;rw[List.any_append,Jb,List.any_nil,Gv]
theorem ahN:∀{ws es:List (Bs×Bs)},gQ ws es->∀x∈ws,c7 es x.1=false:=by
 intro zi
 induction zi with
 |nil=>
 exact @λZ Z x hx=>by cases hx
 |cons zp ws ih=>
 obtain⟨n,v⟩:=zp;exact @λes h x hx=>by
  cases hx with
  |head=>exact h.2.1
  |tail _ hx=>have:=ih h.2.2.2.2 x hx;rw[s5,EZ] at this;exact this.1
theorem nW:∀{ws es:List (Bs×Bs)}{n v:Bs},gQ ws es->(n,v)∈ws->cN ws n=some v:=by
 intro zi
 induction zi with
 |nil=>
 exact @λZ Z Z Z hx=>by cases hx
 |cons zp ws ih=>
 obtain⟨m,u⟩:=zp;exact @λes n v h hx=>by
  unfold cN;rw[Jj]
  cases hx with
  |head=>rw[show((m,u).1==m)=true from DA _];rfl
  |tail _ hx=>have:=ahN h.2.2.2.2 _ hx;rw[s5,EZ] at this;rw[show((m,u).1==n)=false from this.2];exact ih h.2.2.2.2 hx
theorem acy{n v:Bs}(h:cN ws n=some v):(n,v)∈ws:=by
 unfold cN at h
 cases e:ws.find? λe=>e.1==n with
 |none=>rw[e] at h;cases h
 |some x=>rw[e] at h;obtain⟨a,b⟩:=x;have h1:=K5 (p:=λe:Bs×Bs=>e.1==n) e;obtain rfl:b=v:=C6 h;obtain rfl:a=n:=eq_of_beq h1;exact Li e
structure Text(T ws:List (Bs×Bs)):Prop where
 words:T.map (·.2)=jN ws
 wM:∀t∈T,wU t.1
 names:gQ ws []
 few:ws.length<400
def eQ(c:UInt8):Prop:=(bl c||c==35)=true
theorem o8{r:Bs}(h:eQ c):wd (c::r)=[]:=by rw[ja,CM (show(bl c||c==35)=true from h)]
theorem apT{r:Bs}(h:eQ c):∀k,wd ((c::r).take k)=[]:=by
 intro zi
 induction zi with
 |zero=>
 exact rfl
 |succ k ih=>
 exact o8 h
section
variable {r:Bs}{nums:List Int}
theorem abA{x:Bs}:(aq++x).drop 2=x:=rfl
theorem aev{x:Bs}:(aq++x).take 2=aq:=rfl
theorem aqh(h:Text T ws)(hr:wd r=[])(ho:(aq++ak T r).length<100000):run (n+3) 16 [.bytes (aq++ak T r)] H=.ok (.tup [.ref H.length,.int ((2+ba T:Nat))]) (H++[tab ws]):=by(refine o_eeeaaa (sV ws [] T h.words h.wM h.names) λg0 n0 q zq3 a1 a2=>r_aa λa3 a4 a5=>?_;clear h;subst zq3);have e:=ah9 (n:=n) (H:=H) (r:=r) ho (by rw[abA];show g0++(n0++ak (ez q) r)=_;rw[ab4]) a1 a2 hr a3;rw[a4] at e;rw[e];show _=R.ok (AV.tup [.ref H.length,.int ((2+(g0.length+n0.length+ba (ez q)):Nat))]) _;rw[acs,C3]
theorem aqg(h:Text T ws)(hs:s<ba T)(ho:(aq++(ak T []).take s).length<100000):∃o':AO,run (n+3) 16 [.bytes (aq++(ak T []).take s)] H=.exc (if cU true T s=true then 2 else 1) (H++[o']):=by
 (refine o_eeeaaa (sV ws [] T h.words h.wM h.names) λg0 n0 q zq3 a1 a2=>r_aa λa3 a4 a5=>?_;subst zq3);have xy:s<g0.length+n0.length+eK q:=by rw[<-acs];exact hs
 exact aia ho (by rw[List.length_append];exact Nat.le_add_right _ _) (by rw[abA];show(g0++(n0++ak (ez q) [])).take s=_;rw[ab4]) a1 a2 a3 xy (by have:=h.few;exact a5▸CT this (by decide))
theorem aeA(h:Text T ws)(hr:wd r=[])(ho:(aq++ak T r).length<100000)(t:Told ws nums){w hh d m:Int}(hn:nums=[w,hh,d,m])
  (k:∀H' q a4,Fr H.length H.length H H'->H'[H.length]?=some (tab ws)->W (CK (af (n+3)) my [.bytes (aq++ak T r),.ref H.length,.int ((2+ba T:Nat)),.ref q,a4,.int w,.int hh,.int d,.int m,.undef,.undef] H') Q E):
  W (CK (af (n+3)) fV ([.bytes (aq++ak T r)]++CR 10 .undef) H) Q E:=by
 have l1:H.length<(H++[tab ws]).length:=by rw[List.length_append];exact D6 _
 refine ajo aev (aqh h hr ho) ⟨n+2,rfl⟩ aC t hn λH' q a4 f=>k H' q a4 ((Fr.app (Nat.le_refl _)).trans ((f.less (CU l1)).any (CU l1))) (f.gt l1 (CV l1) aC)
structure Right(ws:List (Bs×Bs))(w h d p:Nat):Prop where
 told:Told ws [(w:Int),h,d,2^p-1]
 kind:∀v,cN ws bX=some v->v=dW d
 dd:xl d
 ww:1<=w/\w<=100
 hh:1<=h/\h<=100
 pp:2<=p/\p<=16
theorem Right.asZ(g:Right ws w h d p):((decide (1<=(w:Int))&&decide ((w:Int)<=65535))&&(decide (1<=(h:Int))&&decide ((h:Int)<=65535)))=true:=by have:=g.ww;have:=g.hh;simp only[Bool.and_eq_true,C9];exact al9 (by assumption) this
theorem sU(x:Text T ws)(g:Right ws w h d p)(hr:wd r=[])(ho:(aq++ak T r).length<100000)
  (k:∀H' q a4,Fr H.length H.length H H'->W (CK (af (n+3)) oU [.bytes (aq++ak T r),.ref H.length,.int ((2+ba T:Nat)),.ref q,a4,.int w,.int h,.int d,.int (2^p-1),.int p,.undef] H') Q E):
  W (CK (af (n+3)) fV ([.bytes (aq++ak T r)]++CR 10 .undef) H) Q E:=
 aeA x hr ho g.told rfl λH' q a4 f ht=>sg g.asZ (adP g.dd ht g.kind (aot g.pp (k H' q a4 f)))
theorem abB:(aq++ak T (c::rest)).drop (2+ba T+1)=rest:=by
 have e:aq++ak T (c::rest)=(aq++(ak T []++[c]))++rest:=by rw[iM,List.append_assoc,List.append_assoc];rfl
 have l:(aq++(ak T []++[c])).length=2+ba T+1:=by rw[List.length_append,List.length_append,im];rfl
 rw[e,<-l,KW]
theorem iU:(aq++ak T (c::rest)).length=2+ba T+1+rest.length:=by rw[List.length_append,im,Di];show 2+_=_;exact amf
theorem acG{more:Bs}(x:Text T ws)(g:Right ws w h d p)(hc:eQ c)(ho:(aq++ak T (c::(aE (ah p) (au f w h d)++more))).length<100000)(hf:∀y∈au f w h d,y<2^p):
  ∃v H',run (n+4) 17 [.bytes (aq++ak T (c::(aE (ah p) (au f w h d)++more)))] H=.ok v H'/\Fr H.length H.length H H'/\tR H.length H' v (br d) p (bJ f w h d):=by
 have h0:au f w h d≠[]:=by
  intro e;have l:=fZ (f:=f) (w:=w) (h:=h) (d:=d);rw[e] at l;have:0<h*w*d:=Hq (Hq g.hh.1 g.ww.1) (by clear ho hf e l;rcases g.dd with rfl |rfl |rfl<;>decide)
  rw[<-l] at this;exact CY _ this
 have w0:=dH (n:=n+3) (k:=17) (np:=1) (nv:=11) (bd:=fV) (vs:= [.bytes (aq++ak T (c::(aE (ah p) (au f w h d)++more)))]) (H:=H) (Q:=λv H'=>Fr H.length H.length H H'/\tR H.length H' v (br d) p (bJ f w h d)) (E:=bC) rfl rfl
  (sU x g (o8 hc) ho λH1 q a4 f1=>aor (f:=f) (by have:=g.ww;exact adn this) (by have:=g.hh;exact adn this) g.dd (by
   have:=akc (n:=n+2) (H:=H1) (p:=p) ho abB (by rw[iU];exact Nat.le_add_right _ _) h0 g.pp.2 hf;rw[fZ] at this;exact this) λv H2 f2 pa=>⟨f1.trans ((f2.less f1.le).any f1.le),pa.vi f1.le⟩)
 obtain⟨v,H',e,h1,h2⟩:=w0.ok;exact(ax v H' e h1 h2)
theorem ajm{y:Nat}(x:Text T ws)(g:Right ws w h d p)(hc:eQ c)(ho:(aq++ak T (c::aE (ah p) fl)).length<100000)(hl:fl.length=h*w*d)(hf:∀y∈fl,y<256^ah p)(hy:y∈fl)(hb:2^p<=y):
  ∃H',run (n+4) 17 [.bytes (aq++ak T (c::aE (ah p) fl))] H=.exc 2 H'/\Fr H.length H.length H H':=by
 have zf:d<=4:=by clear hl;rcases g.dd with rfl |rfl |rfl<;>decide
 have w0:=dH (n:=n+3) (k:=17) (np:=1) (nv:=11) (bd:=fV) (vs:= [.bytes (aq++ak T (c::aE (ah p) fl))]) (H:=H) (Q:=λZ Z=>False) (E:=λj H'=>j=2/\Fr H.length H.length H H') rfl rfl
  ((sU x g (o8 hc) ho λH1 q a4 f1=>adQ (Nat.lt_of_le_of_lt zf (by decide)) (by have:=g.hh;exact adq this) (by
   have:=aka (n:=n+2) (H:=H1) (p:=p) (r:= []) ho (by rw[abB,Ds]) (by rw[iU];exact Nat.le_add_right _ _) g.pp.2 hf hy hb;rw[hl] at this;exact this) ⟨rfl,f1.trans ((Fr.app (Nat.le_refl _)).less f1.le |>.any f1.le)⟩).mono (Q:=λZ Z=>False) (λZ Z h=>h.elim) λZ Z h=>h)
 obtain⟨H',e,fx⟩:=w0.xc;exact(ae H' e fx)
theorem nZ{w h d m:Int}(x:Text T ws)(t:Told ws [w,h,d,m])(hc:eQ c)(ho:(aq++ak T (c::rest)).length<100000)
  (hb:((decide (1<=w)&&decide (w<=65535))&&(decide (1<=h)&&decide (h<=65535)))=false\/((decide (1<=w)&&decide (w<=65535))&&(decide (1<=h)&&decide (h<=65535)))=true/\
   (d∈[0,2,5]\/∃k:Nat,d=k/\xl k/\(∀v,cN ws bX=some v->v=dW k)/\m∈[0,1,131071,2,6,254,65534])):
  ∃H',run (n+4) 17 [.bytes (aq++ak T (c::rest))] H=.exc 2 H'/\Fr H.length H.length H H':=by
 have w0:=dH (n:=n+3) (k:=17) (np:=1) (nv:=11) (bd:=fV) (vs:= [.bytes (aq++ak T (c::rest))]) (H:=H) (Q:=λZ Z=>False) (E:=λj H'=>j=2/\Fr H.length H.length H H') rfl rfl
  ((aeA x (o8 hc) ho t rfl λH1 q a4 f1 ht=>by
   rcases hb with hb |⟨hb,hd |⟨k,rfl,hk,hv,hm⟩⟩
   ·exact aou hb ⟨rfl,f1⟩
   ·exact sg hb (aoq hd ⟨rfl,f1⟩)
   ·exact sg hb (adP hk ht hv (aos hm ⟨rfl,f1⟩))).mono (Q:=λZ Z=>False) (λZ Z h=>h.elim) λZ Z h=>h)
 obtain⟨H',e,fx⟩:=w0.xc;exact(ae H' e fx)
theorem ajp(x:Text T ws)(g:Right ws w h d p)(hc:eQ c)(ho:(aq++ak T ((c::rest).take k)).length<100000)(hl:rest.length=h*w*d*ah p)(hk:k<1+rest.length):
  ∃H',run (n+4) 17 [.bytes (aq++ak T ((c::rest).take k))] H=.exc 1 H'/\Fr H.length H.length H H':=by
 have zf:d<=4:=by clear hl;rcases g.dd with rfl |rfl |rfl<;>decide
 have hmd:h*w*d<=100*100*4:=Ez (Ez g.hh.2 g.ww.2) zf;have w0:=dH (n:=n+3) (k:=17) (np:=1) (nv:=11) (bd:=fV) (vs:= [.bytes (aq++ak T ((c::rest).take k))]) (H:=H) (Q:=λZ Z=>False) (E:=λj H'=>j=1/\Fr H.length H.length H H') rfl rfl
  ((sU x g (apT hc k) ho λH1 q a4 f1=>adQ (Nat.lt_of_le_of_lt zf (by decide)) (by have:=g.hh;exact adq this) (akb (n:=n+2) (H:=H1) (p:=p) (Nat.lt_of_le_of_lt hmd (by decide)) (by
   rw[List.length_append,im,Dn,<-hl];show 2+_<_;exact amP hl hk)) ⟨rfl,f1⟩).mono (Q:=λZ Z=>False) (λZ Z h=>h.elim) λZ Z h=>h)
 obtain⟨H',e,fx⟩:=w0.xc;exact(ae H' e fx)
theorem ajn(x:Text T ws)(hs:s<ba T)(ho:(aq++(ak T []).take s).length<100000):∃H',run (n+4) 17 [.bytes (aq++(ak T []).take s)] H=.exc (if cU true T s=true then 2 else 1) H'/\Fr H.length H.length H H':=by obtain⟨H',e⟩:=aqg (n:=n) (H:=H) x hs ho;exact(ae _ (gv (np:=1) (nv:=11) (bd:=fV) rfl rfl (Sc (fN (adH aev) Sn) (Se (by rw[E5.assign];exact X2 (aK (Xo (Xv rfl rfl)) e))))) (.app (Nat.le_refl _)))
theorem ajq(h:o.length<2):run (n+4) 17 [.bytes o] H=.exc 0 H:=by
 have e:dB H (.bytes o) [] [.int 2] []=.ok (.bytes (o.take 2)) H:=by show av R.bad (cg 2) (R.ok (AV.bytes (o.take 2)) H)=_;unfold av;rw[CM (by decide)]
 have ne:(o.take 2==aq)=false:=EM λq=>by have:=CN DO q;rw[Dn] at this;change _=2 at this;exact amX h this
 exact gv (np:=1) (nv:=11) (bd:=fV) rfl rfl (Se (d8 (aw (aM rfl (Xo (fT (Xv rfl rfl) aj (Xo Xi) aj e)) qu) Xy (jm ne)) (Se (fO rfl))))
end
section
theorem dq{top:Nat}(h:Bk b H)(h1:0<top)(h2:top<1000000000):∃(d:Nat)(H':AH),d<top/\run (n+1) 20 [.ref b,.int top] H=.ok (.int d) H'/\Fr b H.length H H'/\Bk b H':=by obtain⟨d,s,t,h3,e⟩:=aiW (n:=n) h (show(0:Int)<top by exact akv h1 h2) (am0 h1 h2);exact(aio d _ (C8.mp h3) e (.put (.inl rfl)) s (i_e t (iZ h.lt)))
theorem ci(h:H[p]?=some (.list xs))(hv:xs[d]?=some v):eJ H (.ref p) (.int d)=some v:=by rw[ip h];unfold jy;rw[CM (DU d),DW];exact hv
theorem eB{x y:Bs}(h:x.length+y.length<10000000):dc .add (.bytes x) (.bytes y) H=.ok (.bytes (x++y)) H:=by
 have e:(x++y).length<=al:=by rw[List.length_append];unfold al;exact Nat.le_trans (CU h) (by decide)
 exact CM e
noncomputable def ft:List Bs:= [[32],[9],[10],[11],[12],[13],[35,10],[35,32,87,73,68,84,72,32,55,32,35,10]]
noncomputable def gK:List Bs:= [[],[32],[13,10],[35,120,10]]
theorem aps(h:g∈ft)(x:Bs):sk false (g++x)=sk false x:=by unfold ft at h;simp only[CX,DK,DM] at h;rcases h with rfl |rfl |rfl |rfl |rfl |rfl |rfl |rfl<;>rfl
theorem apt(h:g∈gK)(x:Bs):sk false (g++x)=sk false x:=by unfold gK at h;simp only[CX,DK,DM] at h;rcases h with rfl |rfl |rfl |rfl<;>rfl
theorem apS(h:g∈ft)(x:Bs):wd (g++x)=[]:=by unfold ft at h;simp only[CX,DK,DM] at h;rcases h with rfl |rfl |rfl |rfl |rfl |rfl |rfl |rfl<;>rfl
theorem an0:(ft.all λx=>gK.all λy=>decide ((x++y).length<=16)&&(CS 17).all λk=>decide (sk false ((x++y).take k)=[]))=true:=by decide+kernel
theorem q8{x y:Bs}(hx:x∈ft)(hy:y∈gK):wU (x++y)/\(x++y).length<=16:=by
 have p:=C1.mp (C1.mp an0 x hx) y hy;rw[Bool.and_eq_true,C9] at p;have q:=λk hk=>Dv (C1.mp p.2 k (Fq.mpr hk));refine⟨⟨λz=>by rw[List.append_assoc,aps hx,apt hy],λk=>?_,λz=>by rw[List.append_assoc];exact apS hx _⟩,p.1⟩
 by_cases c:k<17
 ·exact q k c
 ·have:=q 16 (by decide);rw[EH p.1] at this;rw[EH (by omega)];exact this
theorem ahQ(h:Bk b H):∃g H',wU g/\g.length<=16/\run (n+2) 21 [.ref b] H=.ok (.bytes g) H'/\Fr b H.length H H'/\Bk b H':=by
 have l0:=h.lt;have e1:ev (af (n+1)) (.list (.cons (.tu [32]) (.cons (.tu [9]) (.cons (.tu [10]) (.cons (.tu [11]) (.cons (.tu [12]) (.cons (.tu [13]) (.cons (.tu [35,10]) (.cons (.tu [35,32,87,73,68,84,72,32,55,32,35,10]) .nil))))))))) 4 [.ref b,.undef] H=.ok (.ref H.length) (H++[.list (ft.map .bytes)]):=bB (ad Xy (ad Xy (ad Xy (ad Xy (ad Xy (ad Xy (ad Xy (ad Xy aj)))))))) (by decide)
 obtain⟨d,H1,hd,e2,f1,b1⟩:=dq (n:=n) (h.app (l:= [.list (ft.map .bytes)])) (top:=8) (by decide) (by decide);have g1:H1[H.length]?=some (.list (ft.map .bytes)):=f1.get (C2 l0) aC;have i1:(ft.map AV.bytes)[d]?=some (.bytes (ft[d]'hd)):=by rw[De,List.getElem?_eq_getElem hd];rfl
 have l1:H.length<=H1.length:=Nat.le_trans (by rw[List.length_append];exact Nat.le_add_right _ _) f1.le;have e3:∀x:AV,ev (af (n+1)) (.list (.cons (.tu []) (.cons (.tu [32]) (.cons (.tu [13,10]) (.cons (.tu [35,120,10]) .nil))))) 4 [.ref b,x] H1=.ok (.ref H1.length) (H1++[.list (gK.map .bytes)]):=λx=>bB (ad Xy (ad Xy (ad Xy (ad Xy aj)))) (by decide)
 obtain⟨k,H2,hk,e4,f2,b2⟩:=dq (n:=n) (b1.app (l:= [.list (gK.map .bytes)])) (top:=4) (by decide) (by decide);have g2:H2[H1.length]?=some (.list (gK.map .bytes)):=f2.get (C2 (Nat.lt_of_lt_of_le l0 l1)) aC;have i2:(gK.map AV.bytes)[k]?=some (.bytes (gK[k]'hk)):=by rw[De,List.getElem?_eq_getElem hk];rfl
 obtain⟨w1,w2⟩:=q8 (Gb (l:=ft) hd) (Gb (l:=gK) hk);refine(dT _ H2 w1 w2 (dQ (np:=1) (nv:=2) (bd:=qc) rfl rfl ?_) ?_ b2)
 ·show CK (af (n+1)) qc [.ref b,.undef] H=_;exact Sc (aD (aR e1 (aK (ad (Xv rfl rfl) (ad Xi aj)) e2) (ci g1 i1))) (Sr (cR (am (Xv rfl rfl) (aR (e3 _) (aK (ad (Xv rfl rfl) (ad Xi aj)) e4) (ci g2 i2)) (eB (by rw[List.length_append] at w2;exact Nat.lt_of_le_of_lt w2 (by decide))))))
 ·exact((Fr.app (Nat.le_refl _)).trans (f1.less (by rw[List.length_append];exact Nat.le_add_right _ _))).trans ((Fr.app l1).trans (f2.less (by rw[List.length_append];exact FK l1)))
noncomputable def ad0(j:Nat):Str:=if j=1 then "cut" else if j=0 then "mark" else "range"
theorem aaj{b:tW}{hs:xB}{t:R Fl}(hd:Γ.hd=false)(h:ev Γ e 4 ρ H=.exc j H1)(k':handle Γ j (.cons k b hs) ρ H1=t):exec Γ (.vR e (.cons k b hs)) ρ H=t:=by rw[E5.vR];rw[hd,h];exact k'
theorem mI{b:tW}{hs:xB}(h:min k 2=min j 2):handle Γ j (.cons k b hs) ρ H=CK {Γ with C:=λZ Z Z=>.bad,hd:=true} b ρ H:=by rw[E7.cons];exact CM h
theorem po{b:tW}{hs:xB}(h:¬min k 2=min j 2):handle Γ j (.cons k b hs) ρ H=handle Γ j hs ρ H:=by
 conv=>lhs;rw[E7.cons]
 exact CQ h
theorem kI(h:run n 17 [.bytes o] H=.exc j H')(hj:j<=2):run (n+1) 26 [.bytes o] H=.ok (.str (ad0 j)) H':=by
 refine dQ (np:=1) (nv:=1) (bd:=qg) rfl rfl ?_;show CK (af n) qg [.bytes o] H=_;refine Sr (aaj rfl (aK (ad (Xv rfl rfl) aj) h) ?_);clear h;rcases j with _ |_ |_ |j
 ·exact(po (by decide)).trans ((mI (by decide)).trans (Sr (cR Xs)))
 ·exact(mI (by decide)).trans (Sr (cR Xs))
 ·exact(po (by decide)).trans ((po (by decide)).trans ((mI (by decide)).trans (Sr (cR Xs))))
 ·exact(anf hj).elim
end
section
structure Seen(H:AH)(q:Nat)(f:Nat->Nat->Nat->Nat)(w h d:Nat)(pl:List AV):Prop where
 list:H[q]?=some (.list pl)
 len:pl.length=d
 cell:∀k,k<d->∃r ps,pl[k]?=some (.inst 0 [.int w,.int h,.ref r])/\H[r]?=some (.list ps)/\∀y,y<h->∃rp,ps[y]?=some (.ref rp)/\H[rp]?=some (row (gk f w k y))
theorem tL.seen(g:tL lo H q (bJ f w h d)):∃pl,Seen H q f w h d pl:=by obtain⟨_,pl,h1,h2,h3⟩:=g;refine⟨pl,h1,by rw[h2];unfold bJ;rw[List.length_map,DI],λk hk=>?_⟩;(obtain⟨v,e,r,zq3,zq4⟩:=h3 k (iX f w h k) (by unfold bJ;rw[De,ET hk];rfl);subst zq3;obtain⟨_,ps,e2,e3,e4⟩:=zq4);refine(ax r ps e e2 (λy hy=>?_));obtain⟨rp,i1,_,i2⟩:=e4 y (gk f w k y) (by unfold iX;rw[De,ET hy];rfl);exact(ae rp i1 i2)
theorem aox{y x:Nat}(hx:x<w):((gk f w k y).map AV.int)[x]?=some (.int (f k y x)):=by unfold gk fF;rw[De,De,De,ET hx];rfl
theorem ab3{y x:Nat}(hk:k<d)(hx:x<w)(hy:y<h):(au f w h d).take ((y*w+x)*d+k+1)=(au f w h d).take ((y*w+x)*d+k)++[f k y x]:=by rw[Fb,ab1 hk hx hy];rfl
theorem aa3{pl:List AV}(g:Seen H q f w h d pl){y x j1 j2 j3:Nat}(hk:k<d)(hx:x<w)(hy:y<h)(h1:ρ[j1]?=pl[k]?)(h2:ρ[j2]?=some (.int y))(h3:ρ[j3]?=some (.int x)):
  ev (af n) (.idx (.idx (.attr (.var j1) 2) (.var j2)) (.var j3)) 4 ρ H=.ok (.int (f k y x)) H:=by
 obtain⟨r,ps,e1,e2,e3⟩:=g.cell k hk;obtain⟨rp,e4,e5⟩:=e3 y hy;exact aR (aR (ay (Xv (h1.trans e1) rfl) rfl) (Xv h2 rfl) (ci e2 e4)) (Xv h3 rfl) (ci e5 (aox hx))
theorem mu{pl:List AV}(g:Seen H q f w h d pl)(hd:0<d):∃r,pl[0]?=some (.inst 0 [.int w,.int h,.ref r]):=by obtain⟨r,ps,e,_⟩:=g.cell 0 hd;exact⟨r,e⟩
theorem toB{i n:Int}{e:Str}(h:(e=="big")=true):dX H .toBytes (.int i) [.int n,.str e]=R.of ((ic i n).map AV.bytes) H:=by
 show av R.bad ((e=="big")=true) (R.of ((ic i n).map AV.bytes) H)=_
 unfold av;exact CM h
theorem afm{i:Int}(h:0<=i/\i<256):ic i 1=some [CZ i.toNat]:=CM h
theorem afn{i:Int}(h:0<=i/\i<65536):ic i 2=some [CZ (i.toNat/256),CZ (i.toNat%256)]:=CM h
theorem arn{x:Nat}(hx:x<256^ah p):dX H .toBytes (.int x) [.int (ah p),.str "big"]=.ok (.bytes (fp (ah p) x)) H:=by
 have e:=toB (H:=H) (i:=x) (n:=ah p) (e:="big") (DA _)
 rw[e];have c:ah p=1\/ah p=2:=by unfold ah;split<;>simp
 rcases c with c |c
 ·rw[c] at hx⊢;rw[show ic (x:Int) ((1:Nat):Int)=_ from afm (i:=(x:Int)) ⟨by exact adx hx,C8.mpr hx⟩,DW];rfl
 ·rw[c] at hx⊢;rw[show ic (x:Int) ((2:Nat):Int)=_ from afn (i:=(x:Int)) ⟨by exact adx hx,C8.mpr hx⟩,DW];rfl
theorem ad7{r:aB}(hr:r[j]?=some (.inst 1 [.str m,.int p,.ref q])):ev (af n) (.vd (.cmp (.attr (.var j) 4) .lt (.tm 9)) (.tm 1) (.tm 2)) 4 r H=.ok (.int (ah p)) H:=by
 unfold ah
 by_cases c:p<=8
 ·rw[CM c];exact jR (aw (ay (Xv hr rfl) rfl) Xi (ii (Db (ang c)))) Xi
 ·rw[CQ c];exact jQ (aw (ay (Xv hr rfl) rfl) Xi (ii (DD (anh c)))) Xi
theorem abH{x:Nat}:(fp (ah p) x).length<=2:=by rw[j9];unfold ah;split<;>decide
theorem jo:(aE (ah p) fl).length<=fl.length*2:=by rw[jp];exact Ea _ (by unfold ah;split<;>decide)
theorem sv(g:tR lo H ug m p (bJ f w h d))(hd:0<d)(hw:w<=100)(hh:h<=100)(zf:d<=100)(hf:∀k y x,k<d->y<h->x<w->f k y x<256^ah p):
  run (n+1) 25 [ug] H=.ok (.bytes (aE (ah p) (au f w h d))) H:=by
 obtain⟨q,rfl,gq⟩:=g;obtain⟨pl,g⟩:=(gq.seen);obtain⟨r0,e0⟩:=mu g hd;have fb:(au f w h d).length<=1000000:=by rw[fZ];exact Ez (Ez hh hw) zf
 have w0:=dH (n:=n) (k:=25) (np:=1) (nv:=7) (bd:=qh) (vs:= [.inst 1 [.str m,.int p,.ref q]]) (H:=H) (Q:=λv H'=>v=.bytes (aE (ah p) (au f w h d))/\H'=H) (E:=bC) rfl rfl (by
  show W (CK (af n) qh [.inst 1 [.str m,.int p,.ref q],.undef,.undef,.undef,.undef,.undef,.undef] H) _ _;refine aG (dF rfl (cq (ad Xy (ad (ad7 (m:=m) (q:=q) rfl) aj))) rfl) (aG (aD (aR (ay (Xv rfl rfl) rfl) Xi (ci (d:=0) g.list e0))) (dk rfl (aM rfl (ad (ay (Xv rfl rfl) rfl) aj) (eO (k:=h) (mj hh))) (λy ρ Hc=>Hc=H/\∃a4 a5 a6,ρ=[.inst 1 [.str m,.int p,.ref q],.bytes (aE (ah p) ((au f w h d).take (y*w*d))),.int (ah p),.inst 0 [.int w,.int h,.ref r0],a4,a5,a6]) h ?_ ?_ (λy ρ Hc Gq Nq hy i uL kq=>?_) (λρ Hc i=>by rw[cr,CQ (CY _)]) λρ Hc i=>?_))
  ·show h<=((h:Int)-0).toNat;exact ml hh
  ·exact(nH rfl _ _ _ (by rw[GO,GO,Em];rfl))
  ·(revert i;refine r_aeee λzq0 a4 a5 a6 zq4=>?_;subst zq0;subst zq4);refine(kq (.int y) _ (by rw[cr,CM hy]) rfl (dk rfl (aM rfl (ad (ay (Xv rfl rfl) rfl) aj) (eO (k:=w) (mj hw))) (λx ρ Hd=>Hd=Hc/\∃a5 a6,ρ=[.inst 1 [.str m,.int p,.ref q],.bytes (aE (ah p) ((au f w h d).take ((y*w+x)*d))),.int (ah p),.inst 0 [.int w,.int h,.ref r0],.int y,a5,a6]) w ?_ (nG rfl _ _ rfl) (λx ρ Hd Gq Nq hx i uL kq=>?_) (λρ Hd i=>by rw[cr,CQ (CY _)]) λρ Hd i=>?_))
   ·show w<=((w:Int)-0).toNat;exact ml hw
   ·(revert i;refine r_aee λzq0 a5 a6 zq3=>?_;subst zq0;subst zq3);refine(kq (.int x) _ (by rw[cr,CM hx]) rfl (dk rfl (ay (Xv rfl rfl) rfl) (λk ρ He=>He=Hd/\∃a6,ρ=[.inst 1 [.str m,.int p,.ref q],.bytes (aE (ah p) ((au f w h d).take ((y*w+x)*d+k))),.int (ah p),.inst 0 [.int w,.int h,.ref r0],.int y,.int x,a6]) d ?_ (ke rfl _ rfl) (λk ρ He Gq Nq hk i uL kq=>?_) (λρ He i=>?_) λρ He i=>?_))
    ·show d<=((az Hd q).getD []).length;rw[bq g.list];exact C5 g.len.symm
    ·(revert i;refine r_ae λzq0 a6 zq2=>?_;clear gq;subst zq0;subst zq2);obtain⟨r,ps,e1,_⟩:=g.cell k hk;have it:aS He (.ref q) k=some pl[k]? :=by
      show(match az He q with |some xs=>some xs[k]? |none=>none)=_
      rw[bq g.list]
     refine(kq _ _ (it.trans (CN some e1)) rfl (aG (aD (am (Xv rfl rfl) (cS rfl (aa3 (n:=n) g hk hx hy (j1:=6) (j2:=4) (j3:=5) e1.symm rfl rfl) rfl (ad (Xv rfl rfl) (ad Xs aj)) (arn (hf k y x hk hy hx))) (eB ?_))) (bA (uL _ _ (ke rfl (.inst 0 [.int w,.int h,.ref r]) ?_)))))
     ·have:=jo (p:=p) (fl:=(au f w h d).take ((y*w+x)*d+k));have:=abH (p:=p) (x:=f k y x);rw[Dn] at*;exact Nat.lt_of_le_of_lt (Dd (Nat.le_trans (by assumption) (Eh 2 (Nat.le_trans (D9 ..) fb))) this) (by decide)
     ·have e2:aE (ah p) ((au f w h d).take ((y*w+x)*d+(k+1)))=aE (ah p) ((au f w h d).take ((y*w+x)*d+k))++fp (ah p) (f k y x):=by
       rw[<-C3,ab3 hk hx hy,abI];exact CN _ (Ds _)
      rw[e2];rfl
    ·(revert i;refine r_ae λzq0 a6 zq2=>?_;clear gq uL kq;subst zq0;subst zq2);show(match az He q with |some xs=>some xs[d]? |none=>none)=_
     rw[bq g.list];exact CN some (Dw (C5 g.len))
    ·(revert i;refine r_ae λzq0 a6 zq2=>?_;clear gq g kq;subst zq0;subst zq2);exact bA (uL _ _ (nG rfl _ _ (by rw[<-C3,Fg])))
   ·(revert i;refine r_aee λzq0 a5 a6 zq3=>?_;clear gq g kq;subst zq0;subst zq3);exact bA (uL _ _ (nH rfl _ _ _ (by rw[Fg])))
  ·(revert i;refine r_aeee λzq0 a4 a5 a6 zq4=>?_;clear gq g;subst zq0;subst zq4);exact dG (Xv rfl rfl) ⟨by rw[EH (by rw[fZ];exact Nat.le_refl _)],rfl⟩)
 (obtain⟨v,H',e,zq3,zq4⟩:=(w0.ok);subst zq3;clear gq g w0;subst zq4);exact e
end
theorem apn{x y:AO}:(H++[x]).set H.length y=H++[y]:=by rw[Lm _ _ (Nat.le_refl _),FN];rfl
theorem Seen.app{pl:List AV}(g:Seen H q f w h d pl):Seen (H++l) q f w h d pl:=by obtain⟨h1,h2,h3⟩:=g;refine⟨aH h1,h2,λk hk=>?_⟩;obtain⟨r,ps,e1,e2,e3⟩:=h3 k hk;refine(ax r ps e1 (aH e2) (λy hy=>?_));obtain⟨rp,e4,e5⟩:=e3 y hy;exact(ae rp e4 (aH e5))
section
theorem apj(gq:tL lo H q (bJ f w h d))(hd:0<d)(hw:w<=100)(hh:h<=100)(zf:d<=100):
  run (n+1) 8 [.ref q] H=.ok (.ref H.length) (H++[.list (aA (au f w h d))]):=by
 obtain⟨pl,g⟩:=gq.seen;obtain⟨r0,e0⟩:=mu g hd;have fb:(au f w h d).length<=1000000:=by rw[fZ];exact Ez (Ez hh hw) zf
 have g':∀l,Seen (H++l) q f w h d pl:=λl=>g.app;have w0:=dH (n:=n) (k:=8) (np:=1) (nv:=5) (bd:=qp) (vs:= [.ref q]) (H:=H) (Q:=λv H'=>v=.ref H.length/\H'=H++[.list (aA (au f w h d))]) (E:=bC) rfl rfl (by
  show W (CK (af n) qp [.ref q,.undef,.undef,.undef,.undef] H) _ _;refine aG (aD (bB aj (by decide))) (dk rfl (aM rfl (ad (ay (aR (Xv rfl rfl) Xi (ci (d:=0) (g' _).list e0)) rfl) aj) (eO (k:=h) (mj hh))) (λy ρ Hc=>Hc=H++[.list (aA ((au f w h d).take (y*w*d)))]/\∃a2 a3 a4,ρ=[.ref q,.ref H.length,a2,a3,a4]) h ?_ ?_ (λy ρ Hc Gq Nq hy i uL kq=>?_) (λρ Hc i=>by rw[cr,CQ (CY _)]) λρ Hc i=>?_)
  ·show h<=((h:Int)-0).toNat;exact ml hh
  ·exact(nH (by rw[GO,GO,Em];rfl) _ _ _ rfl)
  ·(revert i;refine r_aeee λzq0 a2 a3 a4 zq4=>?_;subst zq0;subst zq4);refine(kq (.int y) _ (by rw[cr,CM hy]) rfl (dk rfl (aM rfl (ad (ay (aR (Xv rfl rfl) Xi (ci (d:=0) (g' _).list e0)) rfl) aj) (eO (k:=w) (mj hw))) (λx ρ Hd=>Hd=H++[.list (aA ((au f w h d).take ((y*w+x)*d)))]/\∃a3 a4,ρ=[.ref q,.ref H.length,.int y,a3,a4]) w ?_ (nG rfl _ _ rfl) (λx ρ Hd Gq Nq hx i uL kq=>?_) (λρ Hd i=>by rw[cr,CQ (CY _)]) λρ Hd i=>?_))
   ·show w<=((w:Int)-0).toNat;exact ml hw
   ·(revert i;refine r_aee λzq0 a3 a4 zq3=>?_;subst zq0;subst zq3);refine(kq (.int x) _ (by rw[cr,CM hx]) rfl (dk rfl (Xv rfl rfl) (λk ρ He=>He=H++[.list (aA ((au f w h d).take ((y*w+x)*d+k)))]/\∃a4,ρ=[.ref q,.ref H.length,.int y,.int x,a4]) d ?_ (ke rfl _ rfl) (λk ρ He Gq Nq hk i uL kq=>?_) (λρ He i=>?_) λρ He i=>?_))
    ·show d<=((az _ q).getD []).length;rw[bq (g' _).list];exact C5 g.len.symm
    ·(revert i;refine r_ae λzq0 a4 zq2=>?_;subst zq0;subst zq2);obtain⟨r,ps,e1,_⟩:=g.cell k hk;have it:aS (H++[.list (aA ((au f w h d).take ((y*w+x)*d+k)))]) (.ref q) k=some pl[k]? :=by
      show(match az _ q with |some xs=>some xs[k]? |none=>none)=_
      rw[bq (g' _).list]
     refine(kq _ _ (it.trans (CN some e1)) rfl (aG (eV (cS rfl (Xv rfl rfl) (iD aC) (ad (aa3 (n:=n) (g' _) hk hx hy (j1:=4) (j2:=2) (j3:=3) e1.symm rfl rfl) aj) (iE aC ?_)) rfl) (bA (uL _ _ (ke ?_ (.inst 0 [.int w,.int h,.ref r]) rfl)))))
     ·unfold aA al;rw[List.length_map,Dn];exact Nat.lt_of_le_of_lt (Nat.le_trans (D9 ..) fb) (by decide)
     ·rw[apn,<-C3,ab3 hk hx hy];unfold aA;rw[Dx];rfl
    ·(revert i;refine r_ae λzq0 a4 zq2=>?_;subst zq0;subst zq2);show(match az _ q with |some xs=>some xs[d]? |none=>none)=_
     rw[bq (g' _).list];exact CN some (Dw (C5 g.len))
    ·(revert i;refine r_ae λzq0 a4 zq2=>?_;subst zq0;subst zq2);exact bA (uL _ _ (nG (by rw[<-C3,Fg]) _ _ rfl))
   ·(revert i;refine r_aee λzq0 a3 a4 zq3=>?_;subst zq0;subst zq3);exact bA (uL _ _ (nH (by rw[Fg]) _ _ _ rfl))
  ·(revert i;refine r_aeee λzq0 a2 a3 a4 zq4=>?_;subst zq0;subst zq4);exact dG (Xv rfl rfl) ⟨rfl,by rw[EH (by rw[fZ];exact Nat.le_refl _)]⟩)
 (obtain⟨v,H',e,zq3,zq4⟩:=w0.ok;subst zq3;subst zq4);exact e
end
noncomputable def o6(a b:Nat):AV:=.tup [.int a,.int b]
noncomputable def ck:Nat->List (Bs×Bs)->List (Nat×Nat)
 |_,[]=>[]
 |i,(g,w)::T=>(i+g.length,i+g.length+w.length)::ck (i+g.length+w.length) T
theorem o7:∀{T:List (Bs×Bs)}{i:Nat},(ck i T).length=T.length:=by
 intro zi
 induction zi with
 |nil=>
 exact @λi=>rfl
 |cons zp T ih=>
 obtain⟨g,w⟩:=zp;exact @λi=>CN Nat.succ ih
theorem sG:∀{T:List (Bs×Bs)}{i j:Nat}{x:Nat×Nat},(ck i T)[j]?=some x->i<=x.1
 |[],i,j,x,h=>by cases h
 |(g,w)::T,i,0,x,h=>by cases h;exact Nat.le_add_right _ _
 |(g,w)::T,i,j+1,x,h=>by have:=sG (T:=T) h;exact ani this
theorem agW:∀(T:List (Bs×Bs))(e:Bool)(i s:Nat),(∀t∈T,0<t.2.length)->∃c,c<=T.length/\(∀j x,(ck i T)[j]?=some x->(x.1<i+s↔j<c))/\
  (cU e T s=true↔∃x,0<c/\(ck i T)[c-1]?=some x/\(c-1)%2=(if e then 0 else 1)/\i+s<x.2):=by
 intro zi
 induction zi with
 |nil=>
 exact @λe i s Z=>(aI 0 (Nat.le_refl _) (λj x h=>(by cases h)) ⟨λh=>(by cases h),λzl=>o_ea zl λx h Z=>CP h (CY _)⟩)
 |cons zp T ih=>
 obtain⟨g,w⟩:=zp;exact @λe i s hw=>by
  have pw:=hw _ (Dy ..);change 0<w.length at pw
  by_cases c1:s<g.length+w.length
  ·rw[iI c1]
   by_cases c2:g.length<s
   ·refine(aI 1 (EK (Ec _)) (λj x h=>?_) ?_)
    ·cases j with
     |zero=>cases h;exact⟨λZ=>Fe,λZ=>by show i+g.length<i+s;exact anj c2⟩
     |succ j=>have:=sG (T:=T) h;exact⟨λq=>by exact ank c1 this q,λq=>by exact anl q⟩
    ·rw[Db c2,IH];constructor
     ·rintro rfl;exact(cY _ Fe rfl rfl (by show i+s<i+g.length+w.length;exact anm c1))
     ·intro y9;obtain⟨x,_,h1,h2,h3⟩:=y9
      cases e with
      |true=>rfl
      |false=>cases h2
   ·refine(aI 0 (Ec _) (λj x h=>?_) ?_)
    ·cases j with
     |zero=>cases h;exact⟨λq=>(by change i+g.length<i+s at q;exact CP (LP q) c2),λq=>CP q (CY _)⟩
     |succ j=>have:=sG (T:=T) h;exact⟨λq=>by exact ano c1 this q,λq=>by exact anp q⟩
    ·rw[DD c2,HM];exact⟨λh=>(by cases h),λzl=>o_ea zl λx h Z=>CP h (CY _)⟩
  ·rw[j8 c1];refine o_eaa (ih (!e) (i+g.length+w.length) (s-(g.length+w.length)) λt ht=>hw t (Dt _ ht)) λc h1 h2 h3=>?_;rw[show i+g.length+w.length+(s-(g.length+w.length))=i+s by exact anq c1] at h2 h3;refine(aI (c+1) (EK h1) (λj x h=>?_) ?_)
   ·cases j with
    |zero=>cases h;exact⟨λZ=>FO _,λZ=>by show i+g.length<i+s;exact anr pw c1⟩
    |succ j=>exact(h2 j x h).trans ⟨Nat.succ_lt_succ,FM⟩
   ·rw[h3];constructor
    ·intro y9;obtain⟨x,q1,q2,q3,q4⟩:=y9;refine(cY x (FO _) ?_ ?_ q4)
     ·rw[GI];clear h1 h2 h3 q3;obtain⟨c',rfl⟩:=Ju (C2 q1);exact q2
     ·clear h3;cases e
      ·change _=1;change _=0 at q3;exact ans q1 q3
      ·change _=0;change _=1 at q3;exact ant q1 q3
    ·intro y9;obtain⟨x,_,q2,q3,q4⟩:=y9;rw[GI] at q2 q3
     cases c with
     |zero=>cases q2;exfalso;change i+s<i+g.length+w.length at q4;exact anu c1 q4
     |succ c=>
      refine(cY x (FO _) q2 ?_ q4);clear h3;cases e
      ·change _=0;change _=1 at q3;exact anv q3
      ·change _=1;change _=0 at q3;exact anw q3
def c6(l:List (Nat×Nat)):List AV:=l.map λx=>o6 x.1 x.2
noncomputable def iY(T:List (Bs×Bs))(s:Nat):Str:=if s<2 then "mark" else if cU true T (s-2)=true then "range" else "cut"
section
theorem ajP(h:H[p]?=some (.list xs))(h2:H[q]?=some (.list [])):bj H .ne (.ref p) (.ref q)=some (!xs.isEmpty):=by
 show((aJ (il (.ref p) (.ref q)) (az H p) λxs=>aJ none (az H q) λys=>if xs.length=ys.length then ff (de H 3) xs ys else some false)).map (!·)=_
 rw[bq h,bq h2]
 cases xs with
 |nil=>rfl
 |cons x xs=>rfl
theorem aiv{c:Nat}(h:H[p]?=some (.list ((CS (c+1)).map λj:Nat=>AV.int j))):eJ H (.ref p) (.int (-1))=some (.int c):=by rw[ip h];unfold jy;rw[CQ (by decide),List.length_map,DI,CM anx,show((-1:Int)+(c+1:Nat)).toNat=c by exact anz,De,ET (D6 c)];rfl
theorem gf(h:H[p]?=some (.list xs)):cT H .len [.ref p]=.ok (.int xs.length) H:=by show aJ _ (az H p) _=_;rw[bq h];rfl
theorem ajz{c:Nat}:dc .mod (.int c) (.int 2) H=.ok (.int ((c%2:Nat))) H:=by rw[mF (by decide),GX _ (by decide)];rfl
theorem agF(yA:H[sp]?=some (.list (c6 (ck 2 T))))(hT:∀t∈T,0<t.2.length)(hl:T.length<1000):∃H',run (n+1) 27 [.ref sp,.int s] H=.ok (.str (iY T s)) H'/\Fr H.length H.length H H':=by
 have ls:(c6 (ck 2 T)).length=T.length:=by unfold c6;rw[List.length_map,o7]
 obtain⟨c,hc,h2,h3⟩:=agW T true 2 (s-2) hT;have w0:=dH (n:=n) (k:=27) (np:=2) (nv:=4) (bd:=qa) (vs:= [.ref sp,.int s]) (H:=H) (Q:=λv H'=>v=.str (iY T s)/\Fr H.length H.length H H') (E:=bC) rfl rfl (by
  show W (CK (af n) qa [.ref sp,.int s,.undef,.undef] H) _ _;refine fk (aw (Xv rfl rfl) Xi (ii (y:=2) (r:=decide (s<2)) (HH.mpr anA))) (λe=>dG Xs ⟨?_,.refl⟩) λe=>bA ?_
  ·unfold iY;rw[CM (Dv e)]
  have hs:=of_decide_eq_false e;rw[show 2+(s-2)=s by exact(Fc (Dq hs))] at h2 h3;have w1:W (ev (af n) (.comp (.var 3) [3] true (.bi .range (.cons (.bi .len (.cons (.var 0) .nil)) .nil)) .nil (.cons (.cmp (.idx (.idx (.var 0) (.var 3)) (.tm 0)) .lt (.var 1)) .nil)) 4 [.ref sp,.int s,.undef,.undef] H) (λv H'=>v=.ref H.length/\H'=H++[.list ((CS c).map λj:Nat=>AV.int j)]) bC:=by
   refine aak rfl (aM rfl (ad (aM rfl (ad (Xv rfl rfl) aj) (gf yA)) aj) (eO (ls▸CT hl (by decide)))) (λj acc Hc=>Hc=H/\acc=(CS (min j c)).map λj:Nat=>AV.int j) T.length ?_ ?_ (λj acc Hc hj i=>?_) (λacc Hc i=>?_) λacc Hc i=>?_
   ·show T.length<=(((c6 (ck 2 T)).length:Int)-0).toNat;exact C5 (id (FC ls))
   ·exact⟨rfl,by rw[Nat.zero_min];rfl⟩
   ·obtain⟨rfl,rfl⟩:=i;obtain⟨x,hx⟩:∃x,(ck 2 T)[j]?=some x:=⟨_,List.getElem?_eq_getElem (by rw[o7];exact hj)⟩;have hv:(c6 (ck 2 T))[j]?=some (o6 x.1 x.2):=by unfold c6;rw[De,hx];rfl
    have ec:ev (af n) (.cmp (.idx (.idx (.var 0) (.var 3)) (.tm 0)) .lt (.var 1)) 3 [.ref sp,.int s,.undef,.int j] Hc=.ok (.bool (decide (x.1<s))) Hc:=aw (aR (aR (Xv rfl rfl) (Xv rfl rfl) (ci yA hv)) Xi (z:=.int x.1) rfl) (Xv rfl rfl) (ii (HH.mpr C8));have hd:=h2 j x hx;refine(ax (.int j) _ (by rw[cr,CM (by rw[ls];exact hj)]) rfl ?_)
    by_cases q:x.1<s
    ·rw[Db q] at ec;have jc:=hd.mp q;refine(bR true _ (bV ec gC) ?_);rw[CM rfl];refine W.of (Xv rfl rfl) ⟨rfl,?_⟩;rw[EJ (CU jc),EJ jc,Jr,Dx];rfl
    ·rw[DD q] at ec;have jc:=λz=>q (hd.mpr z);refine(bR false _ (eW ec) ?_);rw[CQ (by decide)];exact⟨rfl,by rw[Fu (Dq jc),Fu (GK jc)]⟩
   ·rw[cr,CQ (by rw[ls];exact CY _)]
   ·obtain⟨rfl,rfl⟩:=i;rw[Fu hc];exact⟨by rw[List.length_map,DI];unfold al;exact anB hl ls hc,rfl,rfl⟩
  (obtain⟨v,H1,e1,zq3,zq4⟩:=w1.ok;subst zq3;subst zq4);refine aG (aD e1) ?_;have f2:Fr H.length H.length H (H++[.list ((CS c).map λj:Nat=>AV.int j)]++[.list []]):=by rw[List.append_assoc];exact .app (Nat.le_refl _)
  have e2:ev (af n) (.cmp (.var 2) .ne (.list .nil)) 4 [.ref sp,.int s,.ref H.length,.undef] (H++[.list ((CS c).map λj:Nat=>AV.int j)])=.ok (.bool (!((CS c).map λj:Nat=>AV.int j).isEmpty)) (H++[.list ((CS c).map λj:Nat=>AV.int j)]++[.list []]):=aw (Xv rfl rfl) (bB aj (by decide)) (ajP (aH aC) aC)
  have fin:∀r,(cU true T (s-2)=r)->iY T s=(if r=true then("range":Str) else("cut":Str)):=λr e=>by unfold iY;rw[CQ hs,e]
  cases c with
  |zero=>
   have d0:cU true T (s-2)=false:=by
    cases e:cU true T (s-2) with
    |false=>rfl
    |true=>obtain⟨x,q,_⟩:=h3.mp e;exact CP q (CY _)
   exact fQ (db (eW e2)) (dG Xs ⟨CN AV.str (fin _ d0).symm,f2⟩)
  |succ c=>
   obtain⟨x,hx⟩:∃x,(ck 2 T)[c]?=some x:=⟨_,List.getElem?_eq_getElem (by rw[o7];exact hc)⟩;have hv:(c6 (ck 2 T))[c]?=some (o6 x.1 x.2):=by unfold c6;rw[De,hx];rfl
   have e3:=λ(H':AH)(g:H'[H.length]?=some (.list ((CS (c+1)).map λj:Nat=>AV.int j)))=>aR (Γ:=af n) (m:=4) (ρ:= [.ref sp,.int s,.ref H.length,.undef]) (H:=H') (a:=.var 2) (i:=.neg (.tm 1)) (Xv rfl rfl) (pH Xi) (aiv g)
   generalize x8:H++[AO.list ((CS (c+1)).map λj:Nat=>AV.int j)]++[AO.list []]=H2 at e2 f2
   have g2:H2[H.length]?=some (.list ((CS (c+1)).map λj:Nat=>AV.int j)):=by rw[<-x8];exact aH aC
   have gs:H2[sp]?=some (.list (c6 (ck 2 T))):=by rw[<-x8];exact aH (aH yA)
   have e4:ev (af n) (.cmp (.bin .mod (.idx (.var 2) (.neg (.tm 1))) (.tm 2)) .eq (.tm 0)) 4 [.ref sp,.int s,.ref H.length,.undef] H2=.ok (.bool (c%2==0)) H2:=aw (am (e3 H2 g2) Xi ajz) Xi (iH (rH (b:=0)));have e5:ev (af n) (.cmp (.idx (.idx (.var 0) (.idx (.var 2) (.neg (.tm 1)))) (.tm 1)) .gt (.var 1)) 4 [.ref sp,.int s,.ref H.length,.undef] H2=.ok (.bool (decide (s<x.2))) H2:=aw (aR (aR (Xv rfl rfl) (e3 H2 g2) (ci gs hv)) Xi (z:=.int x.2) rfl) (Xv rfl rfl) (eY (HH.mpr C8));rw[show(!((CS (c+1)).map λj:Nat=>AV.int j).isEmpty)=true by rw[List.isEmpty_map];cases h:CS (c+1) with
    |nil=>exact CP (CN DO h) (by rw[DI];exact Nat.succ_ne_zero _)
    |cons _ _=>rfl] at e2
   have dd:cU true T (s-2)=((c%2==0)&&decide (s<x.2)):=by
    rw[HN,h3,Bool.and_eq_true,Df,C9];rw[GI];constructor
    ·intro y9;obtain⟨y,_,q1,q2,q3⟩:=y9;rw[hx] at q1;cases q1;exact⟨q2,q3⟩
    ·rintro⟨q1,q2⟩;exact(cY x (FO _) hx q1 q2)
   cases q1:c%2==0 with
   |false=>rw[q1] at e4 dd;exact fQ (db (bV e2 (eW e4))) (dG Xs ⟨CN AV.str (fin _ dd).symm,f2⟩)
   |true=>
    rw[q1] at e4 dd
    cases q2:decide (s<x.2) with
    |false=>rw[q2] at e5 dd;exact fQ (db (bV e2 (bV e4 (eW e5)))) (dG Xs ⟨CN AV.str (fin _ dd).symm,f2⟩)
    |true=>rw[q2] at e5 dd;exact fk (db (bV e2 (bV e4 (bV e5 gC)))) (λZ=>dG Xs ⟨CN AV.str (fin _ dd).symm,f2⟩) nofun)
 obtain⟨v,H',e,rfl,h⟩:=w0.ok;exact(ae H' e h)
end
noncomputable def dj(x:Bs×Bs):List Bs:=if x.1==aQ then [x.1] else [x.1,x.2]
noncomputable def aY(x:Bs×Bs):AV:=.tup [.bytes x.1,.bytes x.2]
noncomputable def jK:List Bs:= [[32],[9],[10],[11],[12],[13],[35]]
theorem ahy{w:Bs}:ak (T++[(g,w)]) []=ak T []++g++w:=by
 have:∀T:List (Bs×Bs),ak (T++[(g,w)]) []=ak T (g++(w++[])):=by
  intro T
  induction T with
  |nil=>rfl
  |cons t T ih=>obtain⟨a,b⟩:=t;show a++(b++ak (T++[(g,w)]) [])=_;rw[ih];rfl
 rw[this,iM,Ds,List.append_assoc]
theorem ai5{w:Bs}:ba (T++[(g,w)])=ba T+(g.length+w.length):=by
 induction T with
 |nil=>exact Ev _ _
 |cons t T ih=>obtain⟨a,b⟩:=t;show a.length+b.length+ba (T++[(g,w)])=a.length+b.length+ba T+_;rw[ih];exact anC
theorem apA{w:Bs}:∀{i:Nat},ck i (T++[(g,w)])=ck i T++[(i+ba T+g.length,i+ba T+g.length+w.length)]:=by
 induction T with
 |nil=>intro i;rfl
 |cons t T ih=>intro i;obtain⟨a,b⟩:=t;show(_,_)::ck (i+a.length+b.length) (T++[(g,w)])=(_,_)::ck _ T++_;rw[ih,show i+a.length+b.length+ba T=i+ba ((a,b)::T) by show _=i+(a.length+b.length+ba T);exact anD];rfl
structure xd(b m sp ol:Nat)(items:List AV)(H Hc:AH)(T:List (Bs×Bs)):Prop where
 fr:Fr b m H Hc
 bk:Bk b Hc
 vX:Hc[sp]?=some (.list (c6 (ck 2 T)))
 src:Hc[ol]?=some (.list items)
 wM:∀t∈T,wU t.1
 short:ba T<=36*T.length
section
variable {m ol:Nat}{items:List AV}{Hc:AH}
theorem aqd{n v:Bs}:((.bytes n:: .bytes v::[]:List AV)).take (if n==aQ then 1 else 2)=(dj (n,v)).map .bytes:=by
 unfold dj;show _=(if n==aQ then [n] else [n,v]).map AV.bytes
 cases n==aQ<;>rfl
theorem aec{l:Nat}(h:H[l]?=some (.list xs))(hu:u<1000000000):dB H (.ref l) [] [.int u] []=.ok (.ref H.length) (H++[.list (xs.take u)]):=by
 have g:∀u:Int,cg u->dB H (.ref l) [] [.int u] []=.ok (.ref H.length) (H++[.list (xs.take u.toNat)]):=λu q=>by show aJ R.bad (az H l) _=_;rw[bq h];exact CM q
 exact g u (iL hu)
theorem apx{l:Nat}(h:H[l]?=some (.list xs))(hu:u<1000000000):dB H (.ref l) [.int u] [] []=.ok (.ref H.length) (H++[.list (xs.drop u)]):=by
 have g:∀u:Int,cg u->dB H (.ref l) [.int u] [] []=.ok (.ref H.length) (H++[.list (xs.drop u.toNat)]):=λu q=>by show aJ R.bad (az H l) _=_;rw[bq h];exact CM q
 exact g u (iL hu)
theorem apN{v:Bs}{a0 a6:AV}:ev (af n) (.slice (.list (.cons (.var 4) (.cons (.var 5) .nil))) .nil (.cons (.bin .add (.tm 1) (.bi .int (.cons (.cmp (.var 4) .ne (.tu [69,78,68,72,68,82])) .nil))) .nil) .nil) 4 [a0,a1,a2,a3,.bytes nm,.bytes v,a6,a7] H=
  .ok (.ref (H.length+1)) (H++[.list [.bytes nm,.bytes v]]++[.list ((dj (nm,v)).map .bytes)]):=by
 have e:∀H':AH,ev (af n) (.bin .add (.tm 1) (.bi .int (.cons (.cmp (.var 4) .ne (.tu [69,78,68,72,68,82])) .nil))) 4 [a0,a1,a2,a3,.bytes nm,.bytes v,a6,a7] H'=.ok (.int ((if nm==aQ then 1 else 2:Nat))) H':=λH'=>by
  cases h:nm==aQ with
  |true=>exact am Xi (aM rfl (Xo (aw (Xv rfl rfl) Xy (jm (r:=false) h))) rfl) rfl
  |false=>exact am Xi (aM rfl (Xo (aw (Xv rfl rfl) Xy (jm (r:=true) h))) rfl) rfl
 have s:=aec (H:=H++[AO.list [.bytes nm,.bytes v]]) (u:=if nm==aQ then 1 else 2) aC (by split<;>decide)
 rw[aqd,List.length_append] at s;exact fT (bB (ad (Xv rfl rfl) (ad (Xv rfl rfl) aj)) (show 2<=al by decide)) aj (Xo (e _)) aj s
theorem cM(h:H[p]?=some (.list xs)):aS H (.ref p) j=some xs[j]? :=by
 show(match az H p with |some xs=>some xs[j]? |none=>none)=_
 rw[bq h]
theorem fe(h:H[p]?=some (.list xs)):cJ H (.ref p)=xs.length:=by show((az H p).getD []).length=_;rw[bq h];rfl
theorem ad1(g:xd b m sp ol items H Hc T):(aq++ak T []).length=2+ba T:=by rw[List.length_append,im];rfl
theorem aph{sl:Nat}{ys:List AV}{w:Bs}(g:xd b m sp ol items H Hc T)(yA:m<=sp)(bm:b<m)(Ch:sp≠ol)(ol2:b≠ol)(zj:Hc[sl]?=some (.list ys))(sl1:sp≠sl)(sl2:b≠sl)(hw:w.length<=20)(hT:T.length<=1000):
  ∃g1 Hd,W (CK (af (n+2)) (.cons (.assign (.var 7) (.call 21 (.cons (.var 0) .nil))) (.cons (.expr (.tT .append (.var 3) (.cons (.tup (.cons (.bin .add (.bi .len (.cons (.var 2) .nil)) (.bi .len (.cons (.var 7) .nil))) (.cons (.bin .add (.bin .add (.bi .len (.cons (.var 2) .nil)) (.bi .len (.cons (.var 7) .nil))) (.bi .len (.cons (.var 6) .nil))) .nil))) .nil))) (.cons (.assign (.var 2) (.bin .add (.bin .add (.var 2) (.var 7)) (.var 6))) .nil))) [.ref b,a1,.bytes (aq++ak T []),.ref sp,a4,a5,.bytes w,a7] Hc)
   (λfl H'=>fl=.next [.ref b,a1,.bytes (aq++ak (T++[(g1,w)]) []),.ref sp,a4,a5,.bytes w,.bytes g1]/\H'=Hd) bC/\xd b m sp ol items H Hd (T++[(g1,w)])/\Hd[sl]?=some (.list ys):=by
 obtain⟨g1,H1,gg,gl,e1,f1,b1⟩:=ahQ (n:=n) g.bk;have s1:H1[sp]?=some (.list (c6 (ck 2 T))):=f1.get (C2 (Nat.lt_of_lt_of_le bm yA)) g.vX;have lg:=ad1 g;have sh:=g.short;have hll:(c6 (ck 2 T)).length<al:=by unfold c6 al;rw[List.length_map,o7];exact Nat.lt_of_le_of_lt hT (by decide)
 refine(ax g1 (H1.set sp (.list (c6 (ck 2 (T++[(g1,w)]))))) ?_ ⟨?_,b1.put (C2 (Nat.lt_of_lt_of_le bm yA)),iZ (cD s1),?_,?_,?_⟩ ?_)
 ·have ap:=iE (v:=.tup [.int (((aq++ak T []).length:Int)+g1.length),.int (((aq++ak T []).length:Int)+g1.length+w.length)]) s1 hll;have es:c6 (ck 2 T)++[.tup [.int (((aq++ak T []).length:Int)+g1.length),.int (((aq++ak T []).length:Int)+g1.length+w.length)]]=c6 (ck 2 (T++[(g1,w)])):=by
   rw[apA,lg];unfold c6 o6;rw[Dx];rfl
  rw[es] at ap;refine aG (aD (aK (Xo (Xv rfl rfl)) e1)) (aG (eV (cS rfl (Xv rfl rfl) (iD s1) (Xo (cq (ad (am (aM rfl (Xo (Xv rfl rfl)) EO) (aM rfl (Xo (Xv rfl rfl)) EO) rfl) (Xo (am (am (aM rfl (Xo (Xv rfl rfl)) EO) (aM rfl (Xo (Xv rfl rfl)) EO) rfl) (aM rfl (Xo (Xv rfl rfl)) EO) rfl))))) ap) rfl)
   (aG (aD (am (am (Xv rfl rfl) (Xv rfl rfl) (eB (lg▸Nat.lt_of_le_of_lt (Dd (C4 (Nat.le_trans sh (Ea 36 hT)) 2) gl) (by decide)))) (Xv rfl rfl) (eB (by rw[List.length_append];exact lg▸Nat.lt_of_le_of_lt (Dd (Dd (C4 (Nat.le_trans sh (Ea 36 hT)) 2) gl) hw) (by decide))))) (bA ⟨?_,rfl⟩)))
  rw[ahy,<-List.append_assoc,<-List.append_assoc];rfl
 ·have hm:m<=Hc.length:=CU (Nat.lt_of_le_of_lt yA (cD g.vX));exact(g.fr.trans (f1.less hm)).trans (.put (.inr yA))
 ·exact(DN Ch).trans (f1.get ol2.symm g.src)
 ·intro t ht;rcases DP.mp ht with ht |ht
  ·exact g.wM t ht
  ·obtain rfl:=DJ.mp ht;exact gg
 ·rw[ai5,List.length_append];show _<=36*(T.length+1);exact anE hw gl sh
 ·exact(DN sl1).trans (f1.get sl2.symm zj)
end
section
variable {m ol:Nat}{items:List AV}{Hc:AH}
theorem xd.app(g:xd b m sp ol items H Hc T)(hm:m<=Hc.length):xd b m sp ol items H (Hc++l) T:=⟨g.fr.trans (.app hm),g.bk.app,aH g.vX,aH g.src,g.wM,g.short⟩
theorem aei{x:Bs×Bs}:(dj x).length<=2:=by unfold dj;split<;>simp
theorem apJ{x:Bs×Bs}{w:Bs}(h:w∈dj x):w=x.1\/w=x.2:=by
 unfold dj at h
 split at h<;>simp at h
 ·exact .inl h
 ·exact h
theorem qX:∀{l:List (Bs×Bs)},(l.flatMap dj).length<=2*l.length:=by
 intro zi
 induction zi with
 |nil=>
 exact Nat.le_refl _
 |cons x l ih=>
 exact by
  rw[K7,List.length_append,Di];have:=ih;have:=aei (x:=x);exact anF (by assumption) this
theorem aqJ:∀{ws:List (Bs×Bs)},(∀x∈ws,(x.1==aQ)=false)->(ws++[(aQ,[])]).flatMap dj=jN ws:=by
 intro zi
 induction zi with
 |nil=>
 exact @λZ=>rfl
 |cons zp ws ih=>
 obtain⟨a,v⟩:=zp;exact @λh=>by rw[Hb,K7,ih λx hx=>h x (Dt _ hx)];unfold dj;rw[show((a,v).1==aQ)=false from h _ (Dy ..)];rfl
theorem jS{r:Nat}{ys:List AV}(h:H[q]?=some (.list xs))(h2:H[r]?=some (.list ys))(hl:xs.length+ys.length<10000000):dc .add (.ref q) (.ref r) H=.ok (.ref H.length) (H++[.list (xs++ys)]):=by show aJ R.bad (az H q) (λxs=>aJ R.bad (az H r) λys=>cn (xs++ys) H)=_;rw[bq h,bq h2];exact CM (by rw[List.length_append];unfold al;exact Nat.le_trans (CU hl) (by decide))
theorem apl{c:Bs}(h:c∈jK):∃k,c=[k]/\eQ k:=by unfold jK at h;simp only[CX,DK,DM] at h;rcases h with rfl |rfl |rfl |rfl |rfl |rfl |rfl<;>exact(ae _ rfl (by unfold eQ;decide))
structure vY(b:Nat)(H H':AH)(ws T:List (Bs×Bs))(c:UInt8)(sp:Nat):Prop where
 words:T.map (·.2)=jN ws
 wM:∀t∈T,wU t.1
 stop:eQ c
 short:ba T<=36*T.length
 vX:H'[sp]?=some (.list (c6 (ck 2 T)))
 le:H.length<=sp
 fr:Fr b H.length H H'
 bk:Bk b H'
theorem rc(hb:Bk b H)(hp:H[p]?=some (.list (ws.map aY)))(bp:b≠p)(hn:∀x∈ws,(x.1==aQ)=false)(hw:∀x∈ws,x.1.length<=20/\x.2.length<=20)(hl:ws.length<=10):
  ∃T c sp H',run (n+3) 24 [.ref b,.ref p] H=.ok (.tup [.bytes (aq++ak T []++[c]),.ref sp]) H'/\vY b H H' ws T c sp:=by
 have bl:=hb.lt;have pl:=cD hp;have w0:=dH (n:=n+2) (k:=24) (np:=2) (nv:=8) (bd:=qd) (vs:= [.ref b,.ref p]) (H:=H) (Q:=λv H'=>∃T c sp,v=.tup [.bytes (aq++ak T []++[c]),.ref sp]/\vY b H H' ws T c sp) (E:=bC) rfl rfl (by
  show W (CK (af (n+2)) qd [.ref b,.ref p,.undef,.undef,.undef,.undef,.undef,.undef] H) _ _;have e1:ev (af (n+2)) (.bin .add (.var 1) (.list (.cons (.tup (.cons (.tu [69,78,68,72,68,82]) (.cons (.tu []) .nil))) .nil))) 4 [.ref b,.ref p,.bytes aq,.ref H.length,.undef,.undef,.undef,.undef] (H++[.list []])=.ok (.ref (H.length+2)) (H++[.list []]++[.list [aY (aQ,[])]]++[.list ((ws++[(aQ,[])]).map aY)]):=by have:=jS (H:=H++[AO.list []]++[AO.list [aY (aQ,[])]]) (q:=p) (r:=(H++[AO.list []]).length) (xs:=ws.map aY) (aH (aH hp)) aC (by rw[List.length_map];show _+1<_;exact Nat.lt_of_le_of_lt (EK hl) (by decide));rw[show ws.map aY++[aY (aQ,[])]=(ws++[(aQ,[])]).map aY by rw[Dx];rfl,show(H++[AO.list []]++[AO.list [aY (aQ,[])]]).length=H.length+2 by rw[List.length_append,List.length_append];rfl] at this;exact am (Xv rfl rfl) (bB (ad (cq (ad Xy (ad Xy aj))) aj) (by decide)) this
  have lw:(ws++[(aQ,([]:Bs))]).length=ws.length+1:=by rw[List.length_append];rfl
  have AA:∀x∈ws++[(aQ,([]:Bs))],x.1.length<=20/\x.2.length<=20:=λx hx=>by
   rcases DP.mp hx with hx |hx
   ·exact hw x hx
   ·obtain rfl:=DJ.mp hx;decide
  have we:=aqJ hn;have og:(H++[AO.list []]++[AO.list [aY (aQ,[])]]++[AO.list ((ws++[(aQ,[])]).map aY)])[H.length+2]?=some (.list ((ws++[(aQ,[])]).map aY)):=by have:=aC (H:=H++[AO.list []]++[AO.list [aY (aQ,[])]]) (o:=AO.list ((ws++[(aQ,[])]).map aY));rw[List.length_append,List.length_append] at this;exact this
  (revert e1 lw AA we og;refine gn (ws++[(aQ,([]:Bs))]) λwl e1 lw AA we og=>?_);refine aG (dF rfl (cq (ad Xy (ad (bB aj (by decide)) aj))) rfl) (dk rfl e1 (λj ρ Hc=>∃T a4 a5 a6 a7,ρ=[.ref b,.ref p,.bytes (aq++ak T []),.ref H.length,a4,a5,a6,a7]/\xd b H.length H.length (H.length+2) (wl.map aY) H Hc T/\T.map (·.2)=(wl.take j).flatMap dj) wl.length ?_ ?_ (λj ρ Hc Gq Nq hj i uL kq=>?_) (λρ Hc i=>?_) λρ Hc i=>?_)
  ·rw[fe og,List.length_map];exact Nat.le_refl _
  ·refine(iR [] _ _ _ _ rfl (bE ⟨?_,hb.app.app.app,aH (aH aC),og,λt ht=>(by cases ht),Ec _⟩ (by rw[Em];rfl)));rw[List.append_assoc,List.append_assoc];exact .app (Nat.le_refl _)
  ·(revert i;refine r_eeeeea λT a4 a5 a6 a7 zq5=>r_a λsd tw=>?_;subst zq5);have Ac:=cD sd.vX;obtain⟨x,hx⟩:∃x,wl[j]?=some x:=⟨_,List.getElem?_eq_getElem hj⟩;have xm:=AA x (DZ hx);obtain⟨nm,v⟩:=x;have tn:T.length<=2*j:=by
    have:=CN DO tw;rw[List.length_map] at this;have q:=qX (l:=wl.take j);rw[Dn] at q;exact this▸Nat.le_trans q (Ea 2 (Gf ..))
   refine(kq (aY (nm,v)) _ ((cM sd.src).trans (by rw[De,hx];rfl)) rfl (dk rfl apN (λi ρ Hd=>∃T' a6 a7,ρ=[.ref b,.ref p,.bytes (aq++ak T' []),.ref H.length,.bytes nm,.bytes v,a6,a7]/\xd b H.length H.length (H.length+2) (wl.map aY) H Hd T'/\T'.map (·.2)=(wl.take j).flatMap dj++(dj (nm,v)).take i/\Hd[Hc.length+1]?=some (.list ((dj (nm,v)).map .bytes))) (dj (nm,v)).length ?_ ?_ (λi ρ Hd Gq Nq hi iv uL kq=>?_) (λρ Hd iv=>?_) λρ Hd iv=>?_))
   ·rw[fe (xs:=(dj (nm,v)).map .bytes),List.length_map]
    ·exact Nat.le_refl _
    ·have:=aC (H:=Hc++[AO.list [.bytes nm,.bytes v]]) (o:=AO.list ((dj (nm,v)).map .bytes));rw[List.length_append] at this;exact this
   ·refine(ce T _ _ rfl ((sd.app (CU Ac)).app (by rw[List.length_append];exact Nat.le_trans (CU Ac) (Nat.le_add_right ..))) (by rw[Em,Ds];exact tw) ?_);have:=aC (H:=Hc++[AO.list [.bytes nm,.bytes v]]) (o:=AO.list ((dj (nm,v)).map .bytes));rw[List.length_append] at this;exact this
   ·obtain⟨T',a6,a7,rfl,Bf,zP,zj⟩:=iv;obtain⟨w,AB⟩:∃w,(dj (nm,v))[i]?=some w:=⟨_,List.getElem?_eq_getElem hi⟩;have atO:w.length<=20:=by
     clear hx hi uL zP zj kq;rcases apJ (DZ AB) with rfl |rfl
     ·exact xm.1
     ·exact xm.2
    have tn':T'.length<=1000:=by have:=CN DO zP;rw[List.length_map,List.length_append,Dn] at this;have q:=qX (l:=wl.take j);rw[Dn] at q;have:=aei (x:=(nm,v));exact anG hl lw hj hi (by assumption) q this
    have Bq:b<Hc.length:=sd.bk.lt;obtain⟨g1,He,ws1,sd2,atw⟩:=aph (n:=n) (a1:=.ref p) (a4:=.bytes nm) (a5:=.bytes v) (a7:=a7) Bf (Nat.le_refl _) bl anH (anI bl) zj (ac3 Ac) (ac3 Bq) atO tn';refine(kq (.bytes w) _ ((cM zj).trans (by rw[De,AB];rfl)) rfl (ws1.mono (λfl H' q=>?_) λZ Z h=>h));clear ws1;obtain⟨rfl,rfl⟩:=q;refine(uL _ _ (gc (T'++[(g1,w)]) _ _ rfl (bT sd2 ?_ atw)));rw[Dx,zP,List.append_assoc,Fb,AB];rfl
   ·obtain⟨T',a6,a7,rfl,Bf,zP,zj⟩:=iv;rw[cM zj,Dw (by rw[List.length_map];exact Nat.le_refl _)]
   ·obtain⟨T',a6,a7,rfl,Bf,zP,zj⟩:=iv;rw[FI] at zP;refine bA (uL _ _ (iQ T' _ _ _ (aI _ rfl Bf ?_)));rw[zP,Fb,hx,K6,Option.toList_some,List.flatMap_singleton]
  ·(revert i;refine r_eeeeea λT a4 a5 a6 a7 zq5=>r_a λsd tw=>?_;subst zq5);rw[cM sd.src,Dw (by rw[List.length_map];exact Nat.le_refl _)]
  ·(revert i;refine r_eeeeea λT a4 a5 a6 a7 zq5=>r_a λsd tw=>?_;subst zq5);rw[FI,we] at tw;have Bq:b<Hc.length:=sd.bk.lt;have Ac:=cD sd.vX;obtain⟨d,H1,hd,e2,f1,b1⟩:=dq (n:=n+1) (sd.bk.app (l:= [.list (jK.map .bytes)])) (top:=7) (by decide) (by decide);have g1:H1[Hc.length]?=some (.list (jK.map .bytes)):=f1.get (Du (CV Bq)) aC;have i1:(jK.map AV.bytes)[d]?=some (.bytes (jK[d]'hd)):=by rw[De,List.getElem?_eq_getElem hd];rfl
   obtain⟨k,hk,ks⟩:=apl (Gb (l:=jK) hd);rw[hk] at i1;have ll:T.length<=2*(ws.length+1):=by have:=CN DO tw;rw[List.length_map,<-we] at this;have:=qX (l:=wl);exact akf lw (by assumption) this
   have sh:=sd.short;have ln:=ad1 sd;refine dG (cq (ad (am (Xv rfl rfl) (aR (bB (ad Xy (ad Xy (ad Xy (ad Xy (ad Xy (ad Xy (ad Xy aj))))))) (by decide)) (aK (ad (Xv rfl rfl) (ad Xi aj)) e2) (ci g1 i1)) (eB (by rw[ln];show _+1<_;exact Nat.lt_of_le_of_lt (En (C4 (Nat.le_trans sh (Ea 36 (Nat.le_trans ll (Ea 2 (EK hl))))) 2) 1) (by decide)))) (ad (Xv rfl rfl) aj))) (gc T k _ rfl ⟨tw,sd.wM,ks,sd.short,f1.get (Du (CV bl)) (aH sd.vX),Nat.le_refl _,?_,b1⟩);exact(sd.fr.trans (.app (CU Ac))).trans (f1.less (by rw[List.length_append];exact Nat.le_trans (CU Ac) (Nat.le_add_right ..))))
 (refine o_eeaeee w0.ok λv H' e T c sp=>r_a λzq6 h=>?_;subst zq6);exact(nN T c sp H' e h)
end
def bf(i:Int):Bs:=(eR i).cps.toList.map CZ
def aeo(i:Int):Bool:=(eR i).cps.toList.all (λc=>decide (c<128))&&decide ((eR i).cps.size<=al)&&bS (bf i)&&iT (bf i)&&decide ((bf i).length<=9)&&decide (dec (bf i)=i)
noncomputable def kP:List Int:= [1,2,3,4]++(CS 17).map λp=>2^p-1
theorem apY:kP.all aeo=true:=by decide+kernel
structure tS(i:Int):Prop where
 low:(eR i).cps.toList.all (λc=>decide (c<128))=true
 size:(eR i).cps.size<=al
 word:bS (bf i)=true
 dig:iT (bf i)=true
 len:(bf i).length<=9
 dec:dec (bf i)=i
theorem tS.of{i:Int}(h:i∈kP):tS i:=by have:=C1.mp apY i h;unfold aeo at this;simp only[Bool.and_eq_true,C9] at this;exact⟨this.1.1.1.1.1,this.1.1.1.1.2,this.1.1.1.2,this.1.1.2,this.1.2,this.2⟩
theorem dD(h:1<=k/\k<=4):(k:Int)∈kP:=by
 unfold kP;refine GE _ ?_;rcases k with _ |_ |_ |_ |_ |k
 ·exact(akg h).elim
 all_goals first |exact(akh h).elim |decide
theorem kR(h:p<=16):(2^p-1:Int)∈kP:=by unfold kP;exact Jo _ (Dz.mpr (ae p (Fq.mpr (Ew h)) rfl))
structure Good(ws:List (Bs×Bs))(w h d p:Nat):Prop where
 pw:(ws.map (·.1)).Pairwise (·≠·)
 len:ws.length<=5
 ze:∀x∈ws,dt x.1=true/\bS x.2=true/\x.2.length<=9
 mw:(aW,bf w)∈ws
 mh:(aV,bf h)∈ws
 md:(aZ,bf d)∈ws
 mm:(aU,bf (2^p-1))∈ws
 kk:∀v,(bX,v)∈ws->v=dW d
theorem acS:∀{ws es:List (Bs×Bs)},(ws.map (·.1)).Pairwise (·≠·)->(∀x∈ws,dt x.1=true/\bS x.2=true)->(∀x∈ws,c7 es x.1=false)->es.length+ws.length<=900->gQ ws es:=by
 intro zi
 induction zi with
 |nil=>
 exact @λZ Z Z Z Z=>trivial
 |cons zp ws ih=>
 obtain⟨n,v⟩:=zp;exact @λes h f u l=>by rw[DY,List.pairwise_cons] at h;rw[Di] at l;have hx:=f _ (Dy ..);refine(gM hx.1 (u _ (Dy ..)) (LF l) hx.2 (ih h.2 (λx hx=>f x (Dt _ hx)) (λx hx=>?_) (by rw[List.length_append];show es.length+1+_<=_;exact aki l)));rw[s5,u x (Dt _ hx),Gs];exact EM (h.1 x.1 (Dz.mpr (ae x hx rfl)))
section
theorem Good.names(g:Good ws w h d p):gQ ws []:=acS g.pw (λx hx=>⟨(g.ze x hx).1,(g.ze x hx).2.1⟩) (λZ Z=>rfl) (by have:=g.len;show 0+_<=_;exact ac4 this)
theorem qV{n:Bs}(h:dt n=true):n.length<=8:=by
 have a:([aW,aV,aZ,aU,bX,aQ].all λn=>decide (n.length<=8))=true:=by decide
 exact Dv (C1.mp a n (qW (.inl h)))
structure uJ(w h d p:Nat):Prop where
 ww:1<=w/\w<=3
 hh:1<=h/\h<=3
 dd:xl d
 pp:2<=p/\p<=16
theorem xl.le(h:xl d):1<=d/\d<=4:=by rcases h with rfl |rfl |rfl<;>decide
theorem aeF{v0 v1 v2 v3:Bs}(hn:gQ es [])(h0:(aW,v0)∈es)(h1:(aV,v1)∈es)(h2:(aZ,v2)∈es)(h3:(aU,v3)∈es)
  (g:∀v∈[v0,v1,v2,v3],iT v=true/\v.length<=9):Told es [dec v0,dec v1,dec v2,dec v3]:=by
 refine⟨λj hj=>?_,rfl⟩;rcases j with _ |_ |_ |_ |j
 ·exact(dT _ v0 rfl (nW hn h0) ((g v0 (by simp)).1) ((g v0 (by simp)).2) rfl)
 ·exact(dT _ v1 rfl (nW hn h1) ((g v1 (by simp)).1) ((g v1 (by simp)).2) rfl)
 ·exact(dT _ v2 rfl (nW hn h2) ((g v2 (by simp)).1) ((g v2 (by simp)).2) rfl)
 ·exact(dT _ v3 rfl (nW hn h3) ((g v3 (by simp)).1) ((g v3 (by simp)).2) rfl)
 ·exact(rQ hj).elim
theorem Good.right(g:Good ws w h d p)(D:uJ w h d p):Right ws w h d p:=by
 have sw:=tS.of (dD (k:=w) ⟨D.ww.1,by have:=D.ww;exact fA this⟩);have sh:=tS.of (dD (k:=h) ⟨D.hh.1,by have:=D.hh;exact fA this⟩);have sd:=tS.of (dD D.dd.le);have sm:=tS.of (kR D.pp.2);have t:=aeF g.names g.mw g.mh g.md g.mm (by
  intro v hv;simp only[CX,DK,DM] at hv;rcases hv with rfl |rfl |rfl |rfl
  ·exact⟨sw.dig,sw.len⟩
  ·exact⟨sh.dig,sh.len⟩
  ·exact⟨sd.dig,sd.len⟩
  ·exact⟨sm.dig,sm.len⟩)
 rw[sw.dec,sh.dec,sd.dec,sm.dec] at t;exact⟨t,λv e=>g.kk v (acy e),D.dd,⟨D.ww.1,by have:=D.ww;exact gT this⟩,⟨D.hh.1,by have:=D.hh;exact gT this⟩,D.pp⟩
def fW(w h d p:Nat):List (Bs×Bs):= [(aW,bf w),(aV,bf h),(aZ,bf d),(aU,bf (2^p-1))]
def cB(w h d p:Nat)(t:Bool):List (Bs×Bs):=fW w h d p++(if t then [(bX,dW d)] else [])
noncomputable def fE{α:Type}(l:List α)(t:Nat):List α:=l.drop t++l.take t
theorem kp{l:List α}{t:Nat}{x:α}:x∈fE l t↔x∈l:=by unfold fE;rw[DP,Or.comm,<-DP,Lq]
theorem aow:((CS 5).all λt=>decide ((fE [aW,aV,aZ,aU] t).Pairwise (·≠·))&&decide ((fE [aW,aV,aZ,aU,bX] t).Pairwise (·≠·)))=true:=by decide
theorem rn(h:xl d):bS (dW d)=true/\(dW d).length<=9:=by rcases h with rfl |rfl |rfl<;>decide
theorem adR{t:Bool}(D:uJ w h d p)(hk:k<5):Good (fE (cB w h d p t) k) w h d p:=by
 have sw:=tS.of (dD (k:=w) ⟨D.ww.1,by have:=D.ww;exact fA this⟩);have sh:=tS.of (dD (k:=h) ⟨D.hh.1,by have:=D.hh;exact fA this⟩);have sd:=tS.of (dD D.dd.le);have sm:=tS.of (kR D.pp.2);have kd:=rn D.dd;have rp:=C1.mp aow k (Fq.mpr hk);rw[Bool.and_eq_true,C9,C9] at rp;have hm:(fE (cB w h d p t) k).map (·.1)=fE ((cB w h d p t).map (·.1)) k:=by unfold fE;rw[Dx,Lf,Lh]
 refine⟨?_,?_,λx hx=>?_,kp.mpr (GE _ (by unfold fW;simp)),kp.mpr (GE _ (by unfold fW;simp)),kp.mpr (GE _ (by unfold fW;simp)),kp.mpr (GE _ (by unfold fW;simp)),λv hv=>?_⟩
 ·rw[hm]
  cases t with
  |false=>exact rp.1
  |true=>exact rp.2
 ·unfold fE;rw[List.length_append,Dj,Dn];have:(cB w h d p t).length<=5:=by clear hm;cases t<;>simp[cB,fW]
  exact akk this
 ·have hx:=kp.mp hx;unfold cB fW at hx;clear hm;cases t<;>simp at hx
  ·rcases hx with rfl |rfl |rfl |rfl
   ·exact⟨rfl,sw.word,sw.len⟩
   ·exact⟨rfl,sh.word,sh.len⟩
   ·exact⟨rfl,sd.word,sd.len⟩
   ·exact⟨rfl,sm.word,sm.len⟩
  ·rcases hx with rfl |rfl |rfl |rfl |rfl
   ·exact⟨rfl,sw.word,sw.len⟩
   ·exact⟨rfl,sh.word,sh.len⟩
   ·exact⟨rfl,sd.word,sd.len⟩
   ·exact⟨rfl,sm.word,sm.len⟩
   ·exact⟨rfl,kd⟩
 ·have hx:=kp.mp hv;have n:¬(bX=aW)/\¬(bX=aV)/\¬(bX=aZ)/\¬(bX=aU):=by decide
  unfold cB fW at hx;clear hm hv;cases t<;>simp[n] at hx
  exact hx
end
def aco:List Bs:= [pW,[],pX,pV]
theorem aiV(h:xl d):∃k:Nat,(d:Int)-1=k/\(aco.map AV.bytes)[k]?=some (.bytes (dW d)):=by
 rcases h with rfl |rfl |rfl
 ·exact(ae 0 rfl rfl)
 ·exact(ae 2 rfl rfl)
 ·exact(ae 3 rfl rfl)
def gu(w h d p:Nat):List AV:= [.tup [.bytes aW,.int w],.tup [.bytes aV,.int h],.tup [.bytes aZ,.int d],.tup [.bytes aU,.int (2^p-1)]]
def s9(v:AV):AV:=iu .none v λl=>match l with
 |[a,b]=>bI .none a λn=>aF .none b λi=>aY (n,bf i)
 |_=>.none
section
theorem apZ{i:Int}(s:tS i)(hi:i.natAbs<10^18)(hj:ρ[j]?=some (.int i)):ev (af n) (.tT .encode (.bi .str (.cons (.var j) .nil)) (.cons (.tO "ascii") .nil)) k ρ H=.ok (.bytes (bf i)) H:=by
 have e1:cT H .str [.int i]=.ok (.str (eR i)) H:=by show av R.bad (i.natAbs<10^18) (R.ok (AV.str (eR i)) H)=_;unfold av;exact CM hi
 have e2:∀(t:Str)(c:Bool),c=true->av R.bad (c=true) (R.ok (AV.bytes (t.cps.toList.map CZ)) H)=R.ok (AV.bytes (t.cps.toList.map CZ)) H:=λt c q=>CM q
 have e3:dX H .encode (.str (eR i)) [.str "ascii"]=.ok (.bytes (bf i)) H:=e2 (eR i) _ (by
  rw(occs:=.all) [Bool.and_eq_true,Bool.and_eq_true,C9];exact⟨⟨DA _,s.low⟩,s.size⟩)
 exact cS rfl (aM rfl (Xo (Xv hj rfl)) e1) rfl (Xo Xs) e3
theorem acK(h:p<=16):((2:Int)^p-1).natAbs<10^18:=by have h1:2^p<=2^16:=Gg (by decide) h;have c:((2^p:Nat):Int)=(2:Int)^p:=FF 2 p;have h0:0<2^p:=Hr (by decide);have e:((2^p:Nat):Int)-1=((2^p-1:Nat):Int):=(GA h0).symm;rw[<-c,e];exact Nat.lt_of_le_of_lt (Nat.le_trans (DQ _ _) h1) (by decide)
theorem aqK(g:tR lo H ug m p (bJ f w h d))(hb:Bk b H)(bl:b<lo)(D:uJ w h d p):
  ∃ws r H',run (n+2) 23 [.ref b,ug] H=.ok (.ref r) H'/\Good ws w h d p/\H'[r]?=some (.list (ws.map aY))/\H.length<=r/\Fr b H.length H H'/\Bk b H':=by
 obtain⟨q,rfl,gq⟩:=g;obtain⟨pl,g⟩:=gq.seen;have dd:=D.dd.le;obtain⟨r0,e0⟩:=mu g (ac5 dd);have ld:=gf g.list;rw[g.len] at ld;have sw:=tS.of (dD (k:=w) ⟨D.ww.1,by have:=D.ww;exact fA this⟩);have sh:=tS.of (dD (k:=h) ⟨D.hh.1,by have:=D.hh;exact fA this⟩);have sd:=tS.of (dD D.dd.le);have sm:=tS.of (kR D.pp.2);have w0:=dH (n:=n+1) (k:=23) (np:=2) (nv:=9) (bd:=qj) (vs:= [.ref b,.inst 1 [.str m,.int p,.ref q]]) (H:=H) (Q:=λv H'=>∃ws r,v=.ref r/\Good ws w h d p/\H'[r]?=some (.list (ws.map aY))/\H.length<=r/\Fr b H.length H H'/\Bk b H') (E:=bC) rfl rfl (by
  show W (CK (af (n+1)) qj [.ref b,.inst 1 [.str m,.int p,.ref q],.undef,.undef,.undef,.undef,.undef,.undef,.undef] H) _ _;have tail:∀(t:Bool)(fq:Nat)(Hc:AH),H.length<=fq->Hc[fq]?=some (.list ((cB w h d p t).map aY))->Fr b H.length H Hc->Bk b Hc->∀a4:AV,W (CK (af (n+1)) (.cons (.assign (.var 6) (.call 20 (.cons (.var 0) (.cons (.bi .len (.cons (.var 5) .nil)) .nil)))) (.cons (.ret (.bin .add (.slice (.var 5) (.cons (.var 6) .nil) .nil .nil) (.slice (.var 5) .nil (.cons (.var 6) .nil) .nil))) .nil)) [.ref b,.inst 1 [.str m,.int p,.ref q],.inst 0 [.int w,.int h,.ref r0],.int d,a4,.ref fq,.undef,.undef,.undef] Hc)
    (λfl H'=>match fl with | .ret v=>∃ws r,v=.ref r/\Good ws w h d p/\H'[r]?=some (.list (ws.map aY))/\H.length<=r/\Fr b H.length H H'/\Bk b H' | .next _=>∃ws r,AV.none=.ref r/\Good ws w h d p/\H'[r]?=some (.list (ws.map aY))/\H.length<=r/\Fr b H.length H H'/\Bk b H') bC:=by
   intro t fq Hc le hq fr bk a4;have zR:(cB w h d p t).length<=5/\0<(cB w h d p t).length:=by clear hq;cases t<;>simp[cB,fW]
   have ll:=gf hq;rw[List.length_map] at ll;obtain⟨k,H1,hk,e2,f1,b1⟩:=dq (n:=n) bk (top:=(cB w h d p t).length) zR.2 (akl zR);have blt:=hb.lt;have hc:=cD hq;have A4:H1[fq]?=some (.list ((cB w h d p t).map aY)):=f1.get (C2 (Nat.lt_of_lt_of_le blt le)) hq;have s1:=apx (u:=k) A4 (Nat.lt_of_lt_of_le hk (Nat.le_trans zR.1 (by decide)));have s2:=aec (H:=H1++[.list (((cB w h d p t).map aY).drop k)]) (u:=k) (aH A4) (Nat.lt_of_lt_of_le hk (Nat.le_trans zR.1 (by decide)));have s3:=jS (H:=H1++[.list (((cB w h d p t).map aY).drop k)]++[.list (((cB w h d p t).map aY).take k)]) (aH aC) aC (by rw[Dj,Dn,List.length_map];exact akm zR hk);have hm:((cB w h d p t).map aY).drop k++((cB w h d p t).map aY).take k=(fE (cB w h d p t) k).map aY:=by unfold fE;rw[Dx,Lf,Lh]
   rw[hm] at s3;refine aG (aD (aK (ad (Xv rfl rfl) (Xo (aM rfl (Xo (Xv rfl rfl)) ll))) e2)) (dG (am (fT (Xv rfl rfl) (Xo (Xv rfl rfl)) aj aj s1) (fT (Xv rfl rfl) aj (Xo (Xv rfl rfl)) aj s2) s3) (dT _ _ rfl (adR D (Nat.lt_of_lt_of_le hk zR.1)) aC ?_ (bE ?_ b1.app.app.app)))
   ·have:=fr.le;have:=f1.le;rw[List.length_append,List.length_append];exact akn le hc this
   ·refine(fr.trans (f1.less fr.le)).trans ?_;rw[List.append_assoc,List.append_assoc];exact .app (Nat.le_trans fr.le f1.le)
  have asP:=bB (Γ:=af (n+1)) (m:=4) (ρ:= [.ref b,.inst 1 [.str m,.int p,.ref q],.inst 0 [.int w,.int h,.ref r0],.int d,.undef,.undef,.undef,.undef,.undef]) (H:=H) (H1:=H) (es:=.cons (.tup (.cons (.tu [87,73,68,84,72]) (.cons (.attr (.var 2) 0) .nil))) (.cons (.tup (.cons (.tu [72,69,73,71,72,84]) (.cons (.attr (.var 2) 1) .nil))) (.cons (.tup (.cons (.tu [68,69,80,84,72]) (.cons (.var 3) .nil))) (.cons (.tup (.cons (.tu [77,65,88,86,65,76]) (.cons (.bin .sub (.bin .pow (.tm 2) (.attr (.var 1) 4)) (.tm 1)) .nil))) .nil))))
   (ad (cq (ad Xy (Xo (ay (Xv rfl rfl) rfl)))) (ad (cq (ad Xy (Xo (ay (Xv rfl rfl) rfl)))) (ad (cq (ad Xy (Xo (Xv rfl rfl)))) (ad (cq (ad Xy (Xo (am (am Xi (ay (Xv rfl rfl) rfl) (jG (p:=p) (by have:=D.pp;exact Nat.le_trans this.2 (by decide)))) Xi rfl)))) aj)))) (show 4<=al by decide)
  have l1:(H++[AO.list (gu w h d p)]).length=H.length+1:=by rw[List.length_append];rfl
  have xL:ev (af (n+1)) (.comp (.tup (.cons (.var 7) (.cons (.tT .encode (.bi .str (.cons (.var 8) .nil)) (.cons (.tO "ascii") .nil)) .nil))) [7,8] false (.var 4) .nil .nil) 4 [.ref b,.inst 1 [.str m,.int p,.ref q],.inst 0 [.int w,.int h,.ref r0],.int d,.ref H.length,.undef,.undef,.undef,.undef] (H++[.list (gu w h d p)])
    =.ok (.ref (H++[AO.list (gu w h d p)]).length) (H++[.list (gu w h d p)]++[.list ((gu w h d p).map s9)]):=by
   refine mN rfl (Xv rfl rfl) (λj=>cM aC) (by rw[fe aC];exact Nat.le_refl _) (λv hv=>?_) (show 4<=al by decide)
   have go:∀(nm:Bs)(i:Int),tS i->i.natAbs<10^18->∃vk,bz (H++[.list (gu w h d p)]) [7,8] false (.tup [.bytes nm,.int i]) [.ref b,.inst 1 [.str m,.int p,.ref q],.inst 0 [.int w,.int h,.ref r0],.int d,.ref H.length,.undef,.undef,.undef,.undef]=some vk/\ev (af (n+1)) (.tup (.cons (.var 7) (.cons (.tT .encode (.bi .str (.cons (.var 8) .nil)) (.cons (.tO "ascii") .nil)) .nil))) 3 vk (H++[.list (gu w h d p)])=.ok (s9 (.tup [.bytes nm,.int i])) (H++[.list (gu w h d p)]):=λnm i s hi=>(ae _ rfl (cq (ad (Xv rfl rfl) (Xo (apZ s hi rfl)))))
   have dw:=D.ww;have dh:=D.hh;unfold gu at hv;simp only[CX,DK,DM] at hv;rcases hv with e |e |e |e
   ·subst e;exact go _ _ sw (Nat.lt_of_le_of_lt dw.2 (by decide))
   ·subst e;exact go _ _ sh (Nat.lt_of_le_of_lt dh.2 (by decide))
   ·subst e;exact go _ _ sd (Nat.lt_of_le_of_lt dd.2 (by decide))
   ·subst e;exact go _ _ sm (acK D.pp.2)
  refine aG (dF rfl (cq (ad (aR (ay (Xv rfl rfl) rfl) Xi (ci (d:=0) g.list e0)) (Xo (aM rfl (Xo (ay (Xv rfl rfl) rfl)) ld)))) rfl) (aG (aD asP) (aG (aD xL) ?_));refine cX (H++[AO.list (gu w h d p)]++[AO.list ((gu w h d p).map s9)]) λH2 x8=>?_;have f2:Fr b H.length H H2:=by rw[<-x8,List.append_assoc];exact .app (Nat.le_refl _)
  have b2:Bk b H2:=by rw[<-x8];exact hb.app.app
  have q2:H2[H.length+1]?=some (.list ((fW w h d p).map aY)):=by rw[<-x8,<-l1];exact aC
  rw[l1];obtain⟨k,H3,hk,e3,f3,b3⟩:=dq (n:=n) b2 (top:=3) (by decide) (by decide);have bl2:=b2.lt;have yW:=hb.lt;have q3:H3[H.length+1]?=some (.list ((fW w h d p).map aY)):=f3.get (C2 (EI yW)) q2;have Bx:=f2.trans (f3.less f2.le);refine fk (r:=decide (0<k)) (aw (aK (ad (Xv rfl rfl) (ad Xi aj)) e3) Xi (eY (y:=0) (HH.mpr (ako hk)))) (λZ=>?_) (λZ=>bA (tail false _ H3 (FL _) (by rw[q3];simp[cB]) Bx b3 _));obtain⟨kk,ek,ik⟩:=aiV D.dd;have em:=iE (H:=H3++[.list (aco.map .bytes)]) (v:=aY (bX,dW d)) (aH q3) (by rw[List.length_map];show 4<al;decide);have l3:H.length<=H3.length:=Bx.le;refine aG (eV (cS rfl (Xv rfl rfl) (iD q3) (Xo (cq (ad Xy (Xo (aR (bB (ad Xy (ad Xy (ad Xy (ad Xy aj)))) (by decide)) (am (Xv rfl rfl) Xi (by rw[<-ek];rfl)) (ci aC ik)))))) em) rfl) (bA (tail true _ _ (FL _) ?_ ?_ ?_ _))
  ·rw[iZ (cD (aH q3))];simp[cB]
  ·exact(Bx.trans (.app l3)).trans (.put (.inr (FL _)))
  ·exact b3.app.put (C2 (EI yW)))
 (refine o_eeaeea w0.ok λv H' e ws r zq5 x=>?_;subst zq5);exact(gc ws r H' e x)
end
noncomputable def gH(p:Nat):List Nat:= [0,1,10,32,35,2^p-1,2^p/3]
noncomputable def m7(xs:List Nat):List Int:=xs.map λx:Nat=>(x:Int)
def mv(w h:Nat)(R:List (List Nat)):PD:=⟨w,h,R.map m7⟩
noncomputable def jq(S:List (List (List Nat)))(k y x:Nat):Nat:=(((S[k]?.getD [])[y]?.getD [])[x]?).getD 0
def lm(w h p:Nat)(R:List (List Nat)):Prop:=R.length=h/\∀xs∈R,xs.length=w/\∀x∈xs,x<2^p
theorem rr{l:List α}{g:α->β}{e:Nat->β}(hl:l.length=n)(h:∀i x,l[i]?=some x->g x=e i):l.map g=(CS n).map e:=by
 apply Ie;intro i;rw[De,De]
 by_cases c:i<n
 ·obtain⟨x,hx⟩:∃x,l[i]?=some x:=⟨_,List.getElem?_eq_getElem (GL c (id (FC hl)))⟩;rw[hx,ET c];exact CN some (h i x hx)
 ·rw[Dw (hl▸Dq c),Dw (by rw[DI];exact Dq c)];rfl
theorem an7{S:List (List (List Nat))}{R:List (List Nat)}(hR:S[k]?=some R)(sh:lm w h p R):mv w h R=iX (jq S) w h k:=by unfold mv iX;congr 1;refine rr sh.1 λy xs hy=>?_;unfold m7 gk fF;rw[Gd];refine rr (sh.2 xs (DZ hy)).1 λx v hx=>?_;show(v:Int)=((jq S k y x:Nat):Int);unfold jq;rw[hR,Fv,hy,Fv,hx];rfl
theorem an9{S:List (List (List Nat))}(hl:S.length=d)(sh:∀R∈S,lm w h p R):S.map (mv w h)=bJ (jq S) w h d:=rr hl λk R hk=>an7 hk (sh R (DZ hk))
theorem ahs{d:Nat}{S:List (List (List Nat))}(sh:∀R∈S,lm w h p R)(k y x:Nat):jq S k y x<2^p:=by
 have p0:0<2^p:=Hr (by decide);unfold jq
 cases e1:S[k]? with
 |none=>exact p0
 |some R=>
  rw[Fv]
  cases e2:R[y]? with
  |none=>exact p0
  |some xs=>
   rw[Fv]
   cases e3:xs[x]? with
   |none=>exact p0
   |some v=>exact((sh R (DZ e1)).2 xs (DZ e2)).2 v (DZ e3)
section
theorem ajy:cT H .min [.int x,.int y]=.ok (.int (if y<x then y else x)) H:=rfl
theorem acJ:((2:Int)^p-1)=((2^p-1:Nat):Int):=by have c:((2^p:Nat):Int)=(2:Int)^p:=FF 2 p;have:0<2^p:=Hr (by decide);exact c▸(GA this).symm
theorem aqj:((2:Int)^p).fdiv 3=((2^p/3:Nat):Int):=by have c:((2^p:Nat):Int)=(2:Int)^p:=FF 2 p;rw[<-c,GW _ (by decide)];rfl
theorem ahb(hi:i<7):∃v,(aA (gH p))[i]?=some (.int (v:Nat)):=⟨(gH p)[i]'hi,by rw[getElem?_ints,List.getElem?_eq_getElem hi];rfl⟩
noncomputable def aa1:PE:=.bi .min (.cons (.idx (.var 6) (.call 20 (.cons (.var 0) (.cons (.tm 7) .nil)))) (.cons (.bin .sub (.bin .pow (.tm 2) (.var 1)) (.tm 1)) .nil))
def so:PE:=.comp aa1 [10] true (.bi .range (.cons (.var 3) .nil)) .nil .nil
theorem aoy{er q:Nat}{a8 a9 a10:AV}(hp:p<=16)(hw:w<=3)(bk:Bk b H)(he:H[er]?=some (.list (aA (gH p))))(be:b≠er):
  W (ev (af (n+1)) so 3 [.ref b,.int p,a2,.int w,.int h,a5,.ref er,a7,a8,a9,a10] H) (λv H'=>∃xs r,v=.ref r/\xs.length=w/\(∀x∈xs,x<2^p)/\H'[r]?=some (.list (aA xs))/\H.length<=r/\Fr b H.length H H'/\Bk b H') bC:=by
 unfold so;refine iA rfl (aM rfl (Xo (Xv rfl rfl)) (eO (ac6 hw))) (λj acc Hc=>∃xs:List Nat,acc=aA xs/\xs.length=j/\(∀x∈xs,x<2^p)/\Fr b H.length H Hc/\Bk b Hc) w ?_ ?_ (λj acc Hc hj i=>?_) (λacc Hc i=>by rw[cr,CQ (CY _)]) λacc Hc i=>?_
 ·show w<=((w:Int)-0).toNat;exact ac7 hw
 ·exact(kg [] rfl rfl (λx hx=>(by cases hx)) (.refl) bk)
 ·obtain⟨xs,rfl,hl,hx,fr,bc⟩:=i;obtain⟨k,H1,hk,e1,f1,b1⟩:=dq (n:=n) bc (top:=7) (by decide) (by decide);obtain⟨v,hv⟩:=ahb (p:=p) hk;have he1:H1[er]?=some (.list (aA (gH p))):=f1.get be.symm (fr.get be.symm he);have e2:ev (af (n+1)) aa1 2 [.ref b,.int p,a2,.int w,.int h,a5,.ref er,a7,a8,a9,.int j] Hc=.ok (.int (if(2:Int)^p-1<v then(2:Int)^p-1 else v)) H1:=
   aM rfl (ad (aR (Xv rfl rfl) (aK (ad (Xv rfl rfl) (ad Xi aj)) e1) (ci he1 hv)) (Xo (am (am Xi (Xv rfl rfl) (jG (p:=p) (ac8 hp))) Xi rfl))) ajy
  have p0:0<2^p:=Hr (by decide);have e3:(if(2:Int)^p-1<v then(2:Int)^p-1 else(v:Int))=((min v (2^p-1):Nat):Int):=by
   rw[acJ]
   split
   ·rename_i q;rw[Fu (CU (C8.mp q))]
   ·rename_i q;rw[EJ (DV.mp (El.mp q))]
  rw[e3] at e2;refine(ax (.int j) _ (by rw[cr,CM hj]) rfl (.of e2 (kg (xs++[min v (2^p-1)]) ?_ (by rw[List.length_append,hl];rfl) (λx q=>?_) (fr.trans (f1.less fr.le)) b1)))
  ·unfold aA;rw[Dx];rfl
  ·rcases DP.mp q with q |q
   ·exact hx x q
   ·obtain rfl:=DJ.mp q;exact Nat.lt_of_le_of_lt (D9 ..) (GN p0 Fe)
 ·obtain⟨xs,rfl,hl,hx,fr,bc⟩:=i;refine(eH (by unfold aA al;rw[List.length_map];exact akq hw hl) xs _ rfl hl hx (bY aC fr.le (fr.trans (.app fr.le)) bc.app))
theorem aoA{er:Nat}{a8 a9 a10:AV}(hp:p<=16)(hw:w<=3)(hh:h<=3)(bk:Bk b H)(he:H[er]?=some (.list (aA (gH p))))(be:b≠er)(ll:lo<=H.length):
  W (ev (af (n+1)) (.comp so [9] true (.bi .range (.cons (.var 4) .nil)) .nil .nil) 4 [.ref b,.int p,a2,.int w,.int h,a5,.ref er,a7,a8,a9,a10] H) (λv H'=>∃R r,v=.ref r/\lm w h p R/\tJ lo H' r (R.map m7)/\Fr b H.length H H'/\Bk b H') bC:=by
 refine iA rfl (aM rfl (Xo (Xv rfl rfl)) (eO (ac6 hh))) (λj acc Hc=>∃R:List (List Nat),R.length=j/\acc.length=j/\(∀xs∈R,xs.length=w/\∀x∈xs,x<2^p)/\(∀(y:Nat)(xs:List Nat),R[y]?=some xs->∃p,acc[y]?=some (.ref p)/\H.length<=p/\Hc[p]?=some (row (m7 xs)))/\Fr b H.length H Hc/\Bk b Hc) h ?_ ?_ (λj acc Hc hj i=>?_) (λacc Hc i=>by rw[cr,CQ (CY _)]) λacc Hc i=>?_
 ·show h<=((h:Int)-0).toNat;exact ac7 hh
 ·exact(gb [] rfl rfl (λx hx=>(by cases hx)) (λy xs e=>(by cases e)) (.refl) bk)
 ·obtain⟨R,hl,yJ,hx,ha,fr,bc⟩:=i;refine(ax (.int j) _ (by rw[cr,CM hj]) rfl ((aoy (q:=0) hp hw bc (fr.get be.symm he) be).mono (λv H' q=>?_) λZ Z h=>h));(revert q;refine r_eeaaaa λxs r zq2 l1 l2 l3=>r_aa λl4 f1 b1=>?_;subst zq2);have bl:=bk.lt;refine(gb (R++[xs]) (by rw[List.length_append,hl];rfl) (by rw[List.length_append,yJ];rfl) (λys q=>?_) (λy ys e=>?_) (fr.trans (f1.less fr.le)) b1)
  ·rcases DP.mp q with q |q
   ·exact hx ys q
   ·clear l3;obtain rfl:=DJ.mp q;exact⟨l1,l2⟩
  ·rcases q9 e with⟨c,e⟩ |⟨rfl,rfl⟩
   ·obtain⟨pp,e1,e2,e3⟩:=ha y ys e;exact(aI pp ((Ee (akr hl yJ c)).trans e1) e2 (f1.get (C2 (Nat.lt_of_lt_of_le bl e2)) e3))
   ·refine(aI r (by rw[hl,<-yJ];exact Ga) (Nat.le_trans fr.le l4) (l3.trans ?_));rw[adS];rfl
 ·obtain⟨R,hl,yJ,hx,ha,fr,bc⟩:=i;refine(eH (by unfold al;exact aks hh hl yJ) R _ rfl ⟨hl,hx⟩ ⟨Nat.le_trans ll fr.le,acc,aC,by rw[List.length_map];exact akt hl yJ,λy xs e=>?_⟩ (bE (fr.trans (.app fr.le)) bc.app));rw[De] at e
  cases e1:R[y]? with
  |none=>rw[e1] at e;cases e
  |some ys=>rw[e1] at e;cases e;obtain⟨pp,q1,q2,q3⟩:=ha y ys e1;exact(aI pp q1 (Nat.le_trans ll q2) (aH q3))
end
noncomputable def ajC:List Str:= ["grey","","rgb","cmyk"]
noncomputable def qG:List Nat:= [1,3,4]
theorem ajB(h:xl d):∃k:Nat,(d:Int)-1=k/\(ajC.map AV.str)[k]?=some (.str (br d)):=by
 rcases h with rfl |rfl |rfl
 ·exact(ae 0 rfl rfl)
 ·exact(ae 2 rfl rfl)
 ·exact(ae 3 rfl rfl)
theorem agO(h:k<3):∃d,xl d/\(aA qG)[k]?=some (.int d):=by
 rcases k with _ |_ |_ |k
 ·exact(ae 1 (.inl rfl) rfl)
 ·exact(ae 3 (.inr (.inl rfl)) rfl)
 ·exact(ae 4 (.inr (.inr rfl)) rfl)
 ·exact(aku h).elim
section
theorem vo.frb(h:vo q H P)(f:Fr b H.length H H1)(hb:b<q):vo q H1 P:=by obtain⟨pl,h1,h2,h3⟩:=h;refine⟨pl,f.get (Du (CV hb)) h1,h2,λk D e=>?_⟩;obtain⟨v,e1,e2⟩:=h3 k D e;exact(ae v e1 (e2.fr f (Nat.lt_add_right 1 hb)))
theorem an6(hb:Bk b H)(hp:2<=p/\p<=16):∃ug w h d f H',run (n+2) 22 [.ref b,.int p] H=.ok ug H'/\uJ w h d p/\tR H.length H' ug (br d) p (bJ f w h d)/\(∀k y x,f k y x<2^p)/\Fr b H.length H H'/\Bk b H':=by
 have bl:=hb.lt;have w0:=dH (n:=n+1) (k:=22) (np:=2) (nv:=11) (bd:=qf) (vs:= [.ref b,.int p]) (H:=H) (Q:=λug H'=>∃w h d f,uJ w h d p/\tR H.length H' ug (br d) p (bJ f w h d)/\(∀k y x,f k y x<2^p)/\Fr b H.length H H'/\Bk b H') (E:=bC) rfl rfl (by
  show W (CK (af (n+1)) qf [.ref b,.int p,.undef,.undef,.undef,.undef,.undef,.undef,.undef,.undef,.undef] H) _ _;obtain⟨k1,H1,B0,e1,f1,b1⟩:=dq (n:=n) (hb.app (l:= [.list (aA qG)])) (top:=3) (by decide) (by decide);obtain⟨d,hd,hdi⟩:=agO B0;have g1:H1[H.length]?=some (.list (aA qG)):=f1.get (Du (CV bl)) aC;obtain⟨k2,H2,zI,e2,f2,b2⟩:=dq (n:=n) b1 (top:=3) (by decide) (by decide);obtain⟨k3,H3,Ca,e3,f3,b3⟩:=dq (n:=n) b2 (top:=3) (by decide) (by decide);have l1:H.length<=H1.length:=Nat.le_trans (by rw[List.length_append];exact Nat.le_add_right _ _) f1.le;have f13:Fr b H.length H H3:=(((Fr.app (Nat.le_refl _)).trans (f1.less (by rw[List.length_append];exact Nat.le_add_right _ _))).trans (f2.less l1)).trans (f3.less (Nat.le_trans l1 f2.le));have l3:H.length<=H3.length:=f13.le;refine aG (aD (aR (bB (ad Xi (ad Xi (ad Xi aj))) (by decide)) (aK (ad (Xv rfl rfl) (ad Xi aj)) e1) (ci g1 hdi))) ?_;refine aG (dF rfl (cq (ad (am Xi (aK (ad (Xv rfl rfl) (ad Xi aj)) e2) rfl) (ad (am Xi (aK (ad (Xv rfl rfl) (ad Xi aj)) e3) rfl) (ad (bB aj (by decide)) aj)))) rfl) ?_;obtain⟨w,hw,cw⟩:∃w:Nat,(1+k2:Int)=w/\1<=w/\w<=3:=(ae (1+k2) (by rw[F8];rfl) (ac9 zI));obtain⟨h,hh,ch⟩:∃h:Nat,(1+k3:Int)=h/\1<=h/\h<=3:=(ae (1+k3) (by rw[F8];rfl) (ac9 Ca));rw[hw,hh];have arV:ev (af (n+1)) (.list (.cons (.tm 0) (.cons (.tm 1) (.cons (.tm 10) (.cons (.tm 32) (.cons (.tm 35) (.cons (.bin .sub (.bin .pow (.tm 2) (.var 1)) (.tm 1)) (.cons (.bin .fdiv (.bin .pow (.tm 2) (.var 1)) (.tm 3)) .nil)))))))) 4 [.ref b,.int p,.int d,.int w,.int h,.ref H3.length,.undef,.undef,.undef,.undef,.undef] (H3++[.list []])=.ok (.ref (H3++[AO.list []]).length) (H3++[.list []]++[.list (aA (gH p))]):=by
   have e:ev (af (n+1)) (.list (.cons (.tm 0) (.cons (.tm 1) (.cons (.tm 10) (.cons (.tm 32) (.cons (.tm 35) (.cons (.bin .sub (.bin .pow (.tm 2) (.var 1)) (.tm 1)) (.cons (.bin .fdiv (.bin .pow (.tm 2) (.var 1)) (.tm 3)) .nil)))))))) 4 [.ref b,.int p,.int d,.int w,.int h,.ref H3.length,.undef,.undef,.undef,.undef,.undef] (H3++[.list []])=.ok (.ref (H3++[AO.list []]).length) (H3++[.list []]++[.list [.int 0,.int 1,.int 10,.int 32,.int 35,.int (2^p-1),.int (((2:Int)^p).fdiv 3)]]):=bB (ad Xi (ad Xi (ad Xi (ad Xi (ad Xi (ad (am (am Xi (Xv rfl rfl) (jG (p:=p) (Nat.le_trans hp.2 (by decide)))) Xi rfl) (ad (am (am Xi (Xv rfl rfl) (jG (p:=p) (Nat.le_trans hp.2 (by decide)))) Xi (pf (by decide))) aj))))))) (show 7<=al by decide)
   rw[aqj,acJ] at e;exact e
  refine aG (aD arV) ?_;rw[show(H3++[AO.list []]).length=H3.length+1 by rw[List.length_append];rfl];have g5:(H3++[.list []]++[.list (aA (gH p))])[H3.length+1]?=some (.list (aA (gH p))):=by have:=aC (H:=H3++[AO.list []]) (o:=.list (aA (gH p)));rw[List.length_append] at this;exact this
  refine dk rfl (aM rfl (Xo (Xv rfl rfl)) (eO (by have:=hd.le;exact akw this))) (λk ρ Hc=>∃(S:List (List (List Nat)))(a7 a8:AV),ρ=[.ref b,.int p,.int d,.int w,.int h,.ref H3.length,.ref (H3.length+1),a7,a8,.undef,.undef]/\S.length=k/\(∀R∈S,lm w h p R)/\vo H3.length Hc (S.map (mv w h))/\Hc[H3.length+1]?=some (.list (aA (gH p)))/\Fr b H.length H Hc/\Bk b Hc) d ?_ ?_ (λk ρ Hc Gq Nq hk i uL kq=>?_) (λρ Hc i=>by rw[cr,CQ (CY _)]) λρ Hc i=>?_
  ·show d<=((d:Int)-0).toNat;exact akx
  ·refine(ce [] _ _ rfl rfl (λR hR=>(by cases hR)) (bY ⟨[],aH aC,rfl,λk D e=>(by cases e)⟩ g5 (f13.trans ?_) b3.app.app));rw[List.append_assoc];exact .app l3
  ·(revert i;refine r_eeeaaa λS a7 a8 zq3 hl sh=>r_aaa λgr he fr bc=>?_;subst zq3);have q1:=cD he;(refine o_eeaeea ((aoA (n:=n) (lo:=H3.length+1) (a2:=.int d) (a5:=.ref H3.length) (a7:=.int k) (a8:=a8) (a9:=.undef) (a10:=.undef) hp.2 cw.2 ch.2 bc he (CV (EI (Nat.lt_of_lt_of_le bl l3))) (CU q1)).ok) λv H4 e4 R r zq5=>r_aaa λsr ra f4 b4=>?_;subst zq5);have gr4:=gr.frb f4 (Nat.lt_of_lt_of_le bl l3);have pa:tG (H3.length+1) H4 (.inst 0 [.int w,.int h,.ref r]) (mv w h R):=(ae r rfl ra);obtain⟨pl,g6,g7,g8⟩:=gr4.push pa;have dl:=hd.le;rw[List.length_map] at g7;refine(kq (.int k) _ (by rw[cr,CM hk]) rfl (aG (aD e4) (aG (eV (cS rfl (Xv rfl rfl) (iD g6) (Xo (jf rfl (ad (Xv rfl rfl) (ad (Xv rfl rfl) (ad (Xv rfl rfl) aj))) rfl)) (iE g6 (by unfold al;exact g7▸hl▸CT hk (Nat.lt_of_le_of_lt dl.2 (by decide))))) rfl) (bA (uL _ _ (gc (S++[R]) _ _ rfl (gN (by rw[List.length_append,hl];rfl) (λR' hR=>?_) ?_ ?_ ?_ (b4.put (C2 (Nat.lt_of_lt_of_le bl l3))))))))))
   ·rcases DP.mp hR with hR |hR
    ·exact sh R' hR
    ·clear ra pa g8;obtain rfl:=DJ.mp hR;exact sr
   ·rw[Dx];exact g8
   ·exact(DN aky).trans (f4.get (C2 (EI (Nat.lt_of_lt_of_le bl l3))) he)
   ·exact(fr.trans (f4.less fr.le)).trans (.put (.inr l3))
  ·(revert i;refine r_eeeaaa λS a7 a8 zq3 hl sh=>r_aaa λgr he fr bc=>?_;subst zq3);obtain⟨kk,ek,ik⟩:=ajB hd;rw[an9 hl sh] at gr;refine dG (jf rfl (ad (aR (bB (ad Xs (ad Xs (ad Xs (ad Xs aj)))) (by decide)) (am (Xv rfl rfl) Xi (by rw[<-ek];rfl)) (ci aC ik)) (ad (Xv rfl rfl) (ad (Xv rfl rfl) aj))) rfl) (ef w h d (jq S) ⟨cw,ch,hd,hp⟩ (ae _ rfl ((gr.frb (b:=b) (.app (Nat.le_refl _)) (Nat.lt_of_lt_of_le bl l3)).at' l3)) (bT (ahs (d:=d) sh) (fr.trans (.app fr.le)) bc.app)))
 refine o_eeaeee w0.ok λv H' e w h d=>r_e λf x=>?_;exact(dU v w h d f H' (bE e x))
end
theorem abN{f:AV->AV->Option Bool}:∀{xs ys:List AV},xs.length=ys.length->(∀(i:Nat)(x y:AV),xs[i]?=some x->ys[i]?=some y->f x y=some true)->ff f xs ys=some true
 |[],[],_,_=>rfl
 |[],y::ys,h,_=>by cases h
 |x::xs,[],h,_=>by cases h
 |x::xs,y::ys,h,q=>by have e:=abN (xs:=xs) (ys:=ys) (Nat.succ.inj h) λi a b ha hb=>q (i+1) a b ha hb;show(f x y).bind (λa=>(ff f xs ys).map (a&&·))=_;rw[q 0 x y rfl rfl,e];rfl
theorem qO{p q:Nat}{ys:List AV}(h:H[p]?=some (.list xs))(h2:H[q]?=some (.list ys))(hl:xs.length=ys.length)(k:∀(i:Nat)(x y:AV),xs[i]?=some x->ys[i]?=some y->de H n x y=some true):de H (n+1) (.ref p) (.ref q)=some true:=by
 show aJ _ (az H p) (λxs=>aJ none (az H q) λys=>if xs.length=ys.length then ff (de H n) xs ys else some false)=_
 rw[bq h,bq h2];exact(CM hl).trans (abN hl k)
theorem ahi{i:Int}:de H (n+1) (.int i) (.int i)=some true:=CN some (DA i)
theorem abP{r r':Nat}{R:List (List Int)}(a:tJ lo H r R)(b:tJ vi H r' R):de H (n+3) (.ref r) (.ref r')=some true:=by
 obtain⟨_,ps,a1,a2,a3⟩:=a;obtain⟨_,qs,b1,b2,b3⟩:=b;refine qO a1 b1 (a2.trans b2.symm) λy u v hu hv=>?_;have hy:y<R.length:=by rw[<-a2];exact(List.getElem?_eq_some_iff.mp hu).1
 obtain⟨p,e1,_,e2⟩:=a3 y _ (List.getElem?_eq_getElem hy);obtain⟨q,e3,_,e4⟩:=b3 y _ (List.getElem?_eq_getElem hy);obtain rfl:=C6 (hu.symm.trans e1);obtain rfl:=C6 (hv.symm.trans e3);refine qO e2 e4 rfl λx u v hu hv=>?_;obtain rfl:=C6 (hu.symm.trans hv);rw[De] at hu
 cases hx:(R[y])[x]? with
 |none=>rw[hx] at hu;cases hu
 |some z=>rw[hx] at hu;clear hv;cases hu;exact ahi
theorem abg{x y:AV}(h:de H 4 x y=some true):bj H .eq x y=some true:=h
section
variable {m:Nat}{zp:PE}{q:AV}{t:List Nat}
theorem afc{P:AV->AH->Prop}(hd:Γ.hd=false)(hi:ev Γ it (m+1) ρ H=.ok src H1)(hz:ev Γ zp (m+1) ρ H1=.ok q H2)(I:Nat->List AV->AH->Prop)(N:Nat)(hN:N<=cJ H2 src)(h0:I 0 [] H2)
  (hs:∀j acc H,j<N->I j acc H->∃v vk,fh H src q j=some (some v)/\bz H t one v ρ=some vk/\W (ev Γ elt m vk H) (λx H'=>I (j+1) (acc++[x]) H') bC)
  (he:∀acc H,I N acc H->fh H src q N=some none) (k:∀acc H,I N acc H->acc.length<=al/\P (.ref H.length) (H++[.list acc])):W (ev Γ (.comp elt t one it (.cons zp .nil) .nil) (m+1) ρ H) P E:=by
 rw[E1.comp];rw[hi];refine W.bind (W.of rfl ?_);refine W.bind (W.of (ad hz aj) ?_);rw[hd];rw[CQ (by rw[HO];decide)];refine W.bind ((abn I N (λj acc H hj i=>?_) he _ 0 [] H2 h0 (Ec _) (Ew hN)).mono (λxs H h=>?_) λZ Z h=>h)
 ·obtain⟨v,vk,e1,e2,w⟩:=hs j acc H hj i;refine(ae v e1 ?_);rw[e2];dsimp only;rw[gC];exact W.bind (.of rfl (W.bind (w.mono (λx H' i=>.of rfl i) λZ Z h=>h)))
 ·obtain⟨h1,h2⟩:=k xs H h;unfold cn;rw[CM h1];exact .of rfl h2
end
section
variable {m:Str}{p:Int}{u:AV}
theorem api(a:tG lo H u D)(b:tG vi H v D):run (n+1) 3 [u,v] H=.ok (.bool true) H:=by obtain⟨r,rfl,a⟩:=a;obtain⟨r',rfl,b⟩:=b;refine dQ (np:=2) (nv:=2) (bd:=qo) rfl rfl ?_;show CK (af n) qo [_,_] H=_;exact Sr (cR (db (bV (aw (ay (Xv rfl rfl) rfl) (ay (Xv rfl rfl) rfl) (iH (DA _))) (bV (aw (ay (Xv rfl rfl) rfl) (ay (Xv rfl rfl) rfl) (iH (DA _))) (bV (aw (ay (Xv rfl rfl) rfl) (ay (Xv rfl rfl) rfl) (abg (abP a b))) gC)))))
theorem na{s:Str}:bj H .ne (.str s) (.str s)=some false:=by show some (!(s==s))=_;rw[DA];rfl
theorem ad2(a:tR lo H u m p P)(b:tR vi H v m p P)(hl:P.length<1000):∃H',run (n+2) 4 [u,v] H=.ok (.bool true) H'/\Fr H.length H.length H H':=by
 (revert a;refine r_ea λq zq1 zq2=>?_;subst zq1;obtain⟨_,pl,a1,a2,a3⟩:=zq2);(revert b;refine r_ea λq' zq1 zq2=>?_;subst zq1;obtain⟨_,pl',b1,b2,b3⟩:=zq2);have la:=gf a1;have lb:=gf b1;rw[a2] at la;rw[b2] at lb;have w0:=dH (n:=n+1) (k:=4) (np:=2) (nv:=4) (bd:=qn) (vs:= [.inst 1 [.str m,.int p,.ref q],.inst 1 [.str m,.int p,.ref q']]) (H:=H) (Q:=λv H'=>v=.bool true/\Fr H.length H.length H H') (E:=bC) rfl rfl (by
  show W (CK (af (n+1)) qn [.inst 1 [.str m,.int p,.ref q],.inst 1 [.str m,.int p,.ref q'],.undef,.undef] H) _ _;refine fQ (bW (bx (aw (ay (Xv rfl rfl) rfl) (ay (Xv rfl rfl) rfl) na) (bx (aw (ay (Xv rfl rfl) rfl) (ay (Xv rfl rfl) rfl) (jl (DA _))) (bx (aw (aM rfl (Xo (ay (Xv rfl rfl) rfl)) la) (aM rfl (Xo (ay (Xv rfl rfl) rfl)) lb) (jl (DA _))) fS)))) ?_;have w1:W (ev (af (n+1)) (.comp (.call 3 (.cons (.var 2) (.cons (.var 3) .nil))) [2,3] false (.attr (.var 0) 5) (.cons (.attr (.var 1) 5) .nil) .nil) 4 [.inst 1 [.str m,.int p,.ref q],.inst 1 [.str m,.int p,.ref q'],.undef,.undef] H) (λv H'=>v=.ref H.length/\H'=H++[.list ((CS P.length).map λZ=>AV.bool true)]) bC:=by
   refine afc rfl (ay (Xv rfl rfl) rfl) (ay (Xv rfl rfl) rfl) (λj acc Hc=>Hc=H/\acc=(CS j).map λZ=>AV.bool true) P.length ?_ ⟨rfl,rfl⟩ (λj acc Hc hj i=>?_) (λacc Hc i=>?_) λacc Hc i=>?_
   ·rw[fe a1,a2];exact Nat.le_refl _
   ·clear la lb;obtain⟨rfl,rfl⟩:=i;obtain⟨x,e1,e2⟩:=a3 j _ (List.getElem?_eq_getElem hj);obtain⟨y,e3,e4⟩:=b3 j _ (List.getElem?_eq_getElem hj);refine(ax (.tup [x,y]) _ ?_ rfl (.of (aK (ad (Xv rfl ?_) (ad (Xv rfl ?_) aj)) (api (n:=n) e2 e4)) ⟨rfl,?_⟩))
    ·show aJ none (az Hc q) (λxs=>aJ none (az Hc q') λys=>some ((xs[j]?).bind λx=>(ys[j]?).map λy=>AV.tup [x,y]))=_;rw[bq a1,bq b1];show some ((pl[j]?).bind _)=_;rw[e1];show some ((pl'[j]?).map _)=_;rw[e3];rfl
    ·(revert e2;refine r_ea λr zq1 Z=>?_;clear e1;subst zq1);rfl
    ·(revert e4;refine r_ea λr zq1 Z=>?_;clear e3;subst zq1);rfl
    ·rw[Jr,Dx];rfl
   ·clear a3 b3 la lb;obtain⟨rfl,rfl⟩:=i;show aJ none (az Hc q) (λxs=>aJ none (az Hc q') λys=>some ((xs[P.length]?).bind λx=>(ys[P.length]?).map λy=>AV.tup [x,y]))=_;rw[bq a1,bq b1];show some ((pl[P.length]?).bind _)=_;rw[Dw (C5 a2)];rfl
   ·clear a1 a3 b1 b3 la lb;obtain⟨rfl,rfl⟩:=i;exact⟨by rw[List.length_map,DI];unfold al;exact akz hl a2 b2,rfl,rfl⟩
  (obtain⟨v,H1,e1,zq3,zq4⟩:=w1.ok;subst zq3;subst zq4);exact dG (aM rfl (Xo e1) aan) ⟨rfl,.app (Nat.le_refl _)⟩)
 obtain⟨v,H',e,rfl,x⟩:=w0.ok;exact(ae H' e x)
end
structure vI(p:Nat)(D:PD):Prop where
 w:1<=D.w
 h:1<=D.h
 len:(D.rows.length:Int)=D.h
 rows:∀(y:Nat)(xs:List Int),D.rows[y]?=some xs->(xs.length:Int)=D.w/\∀(i:Nat)(z:Int),xs[i]?=some z->0<=z/\z<=2^p-1
section
theorem ab8(hp:p<=1000):run (n+1) 2 [.int p] H=.ok (.int (2^p-1)) H:=by
 have e:dc .shl (.int 1) (.int p) H=.ok (.int (1*2^p)) H:=by show av R.bad (0<=(p:Int)/\(p:Int)<=1000/\(1:Int).natAbs<cI) _=_;unfold av;rw[CM ⟨by exact rR hp,by exact(FJ rfl rfl hp),by decide⟩,DW]
 rw[KJ] at e;exact dQ (np:=1) (nv:=1) (bd:=aaE) rfl rfl (Sr (cR (am (am Xi (Xv rfl rfl) e) Xi rfl)))
theorem afZ{m:Nat}{b:PE}{x y:Bool}(h1:ev Γ a m ρ H=.ok (.bool x) H)(h2:ev Γ b m ρ H=.ok (.bool y) H):ev Γ (.bor (.cons a (.cons b .nil))) m ρ H=.ok (.bool (x||y)) H:=by
 cases x with
 |true=>exact bW (dm h1)
 |false=>
  cases y with
  |true=>exact bW (bx h1 (dm h2))
  |false=>exact bW (bx h1 (bx h2 fS))
theorem aaM{m:Nat}{b c:PE}{x y z:Bool}(h1:ev Γ a m ρ H=.ok (.bool x) H)(h2:ev Γ b m ρ H=.ok (.bool y) H)(h3:ev Γ c m ρ H=.ok (.bool z) H):ev Γ (.bor (.cons a (.cons b (.cons c .nil)))) m ρ H=.ok (.bool (x||(y||z))) H:=by
 cases x with
 |true=>exact bW (dm h1)
 |false=>
  cases y with
  |true=>exact bW (bx h1 (dm h2))
  |false=>
   cases z with
   |true=>exact bW (bx h1 (bx h2 (dm h3)))
   |false=>exact bW (bx h1 (bx h2 (bx h3 fS)))
theorem lL:bj H .ne (.int x) (.int y)=some (!(x==y)):=rfl
theorem aiG{i:Int}:cT H .isInt [.int i]=.ok (.bool true) H:=rfl
theorem an8(a:tG lo H v D)(hp:p<=1000):W (run (n+2) 5 [v,.int p] H) (λu H'=>u=.none/\H'=H/\vI p D) (λj H'=>j=2/\H'=H/\¬vI p D):=by
 (revert a;refine r_ea λr zq1 zq2=>?_;subst zq1;obtain⟨_,ps,g1,g2,g3⟩:=zq2);have ll:=gf g1;rw[g2] at ll;refine dH (n:=n+1) (np:=2) (nv:=5) (bd:=p9) rfl rfl ?_;show W (CK (af (n+1)) p9 [.inst 0 [.int D.w,.int D.h,.ref r],.int p,.undef,.undef,.undef] H) _ _;refine fk (aaM (aw (ay (Xv rfl rfl) rfl) Xi (ii rfl)) (aw (ay (Xv rfl rfl) rfl) Xi (ii rfl)) (aw (aM rfl (Xo (ay (Xv rfl rfl) rfl)) ll) (ay (Xv rfl rfl) rfl) lL)) (λe=>Wx rfl ⟨rfl,rfl,λg=>?_⟩) λe=>bA ?_
 ·have:=g.w;have:=g.h;have:=g.len;simp only[EF,C9,Fz,EL] at e;exact e.elim (El.mpr (by assumption)) λh=>h.elim (El.mpr (by assumption)) λh=>h this
 ·have e:1<=D.w/\1<=D.h/\(D.rows.length:Int)=D.h:=by
   simp only[EZ,FU,Gu,Df] at e;exact⟨El.mp e.1,El.mp e.2.1,e.2.2⟩
  refine aG (aD (aK (Xo (Xv rfl rfl)) (ab8 hp))) (dk rfl (ay (Xv rfl rfl) rfl) (λy ρ Hc=>Hc=H/\(∃a3 a4,ρ=[.inst 0 [.int D.w,.int D.h,.ref r],.int p,.int (2^p-1),a3,a4])/\∀(y':Nat)(xs:List Int),y'<y->D.rows[y']?=some xs->(xs.length:Int)=D.w/\∀(i:Nat)(z:Int),xs[i]?=some z->0<=z/\z<=2^p-1) D.rows.length ?_ ⟨rfl,(cK _ _ rfl),λy' xs h Z=>CP h (Eb _)⟩ (λy ρ Hc Gq Nq hy i uL kq=>?_) (λρ Hc i=>?_) λρ Hc i=>?_)
  ·rw[fe g1,g2];exact Nat.le_refl _
  ·(revert i;refine r_aa λzq0 zq1 ih=>?_;subst zq0;obtain⟨a3,a4,rfl⟩:=zq1);obtain⟨xs,hx⟩:∃xs,D.rows[y]?=some xs:=⟨_,List.getElem?_eq_getElem hy⟩;obtain⟨rp,q1,_,q2⟩:=g3 y xs hx;have lr:=gf q2;rw[List.length_map] at lr;refine(kq (.ref rp) _ ((cM g1).trans (CN some q1)) rfl (fk (aw (aM rfl (Xo (Xv rfl rfl)) lr) (ay (Xv rfl rfl) rfl) lL) (λe=>Wx rfl ⟨rfl,rfl,λg=>?_⟩) λe2=>bA ?_))
   ·rw[Fz,EL] at e;exact e (g.rows y xs hx).1
   ·rw[Gu,Df] at e2;refine dk rfl (Xv rfl rfl) (λx ρ Hd=>Hd=Hc/\(∃a4,ρ=[.inst 0 [.int D.w,.int D.h,.ref r],.int p,.int (2^p-1),.ref rp,a4])/\∀(i:Nat)(z:Int),i<x->xs[i]?=some z->0<=z/\z<=2^p-1) xs.length ?_ ⟨rfl,⟨_,rfl⟩,λi z h Z=>CP h (Eb _)⟩ (λx ρ Hd Gq Nq A7 i uL kq=>?_) (λρ Hd i=>?_) λρ Hd i=>?_
    ·rw[fe q2,List.length_map];exact Nat.le_refl _
    ·(revert i;refine r_aa λzq0 zq1 Bb=>?_;clear g1 g3 ll lr;subst zq0;obtain⟨a4,rfl⟩:=zq1);obtain⟨z,hz⟩:∃z,xs[x]?=some z:=⟨_,List.getElem?_eq_getElem A7⟩;refine(kq (.int z) _ ((cM q2).trans (by rw[De,hz];rfl)) rfl (fk (aaM (iB (r:=true) (aM rfl (Xo (Xv rfl rfl)) aiG)) (aw (Xv rfl rfl) Xi (ii rfl)) (aw (Xv rfl rfl) (Xv rfl rfl) (eY rfl))) (λe=>Wx rfl ⟨rfl,rfl,λg=>?_⟩) λe=>bA (bA (uL _ _ (bT rfl ⟨_,rfl⟩ (λi u hi hu=>?_))))))
     ·have:=(g.rows y xs hx).2 x z hz;rw[Kc,Gs,EF,C9,C9] at e;exact e.elim (El.mpr this.1) (El.mpr this.2)
     ·rw[Kc,Gs,EZ,FU,FU] at e
      by_cases c:i=x
      ·clear A7 Bb uL kq hi;subst c;obtain rfl:=C6 (hz.symm.trans hu);exact⟨El.mp e.1,El.mp e.2⟩
      ·exact Bb i u (Ep (Eo hi) c) hu
    ·clear g1 g3 ll uL kq lr;obtain⟨rfl,_⟩:=i;rw[cM q2,Dw (by rw[List.length_map];exact Nat.le_refl _)]
    ·(revert i;refine r_aa λzq0 zq1 Bb=>?_;clear g1 g3 ll q2 lr;subst zq0;obtain⟨a4,rfl⟩:=zq1);refine bA (uL _ _ (bT rfl (cK _ _ rfl) (λy' ys hy' AC=>?_)))
     by_cases c:y'=y
     ·clear hy ih q1 uL kq hy';subst c;obtain rfl:=C6 (hx.symm.trans AC);exact⟨e2,λi z hz=>Bb i z (List.getElem?_eq_some_iff.mp hz).1 hz⟩
     ·exact ih y' ys (Ep (Eo hy') c) AC
  ·clear g3 ll;obtain⟨rfl,_⟩:=i;rw[cM g1,Dw (C5 g2)]
  ·(revert i;refine r_aa λzq0 zq1 ih=>?_;clear g1 g3 ll;subst zq0;obtain⟨a3,a4,rfl⟩:=zq1);exact bA ⟨rfl,rfl,e.1,e.2.1,e.2.2,λy xs hx=>ih y xs (List.getElem?_eq_some_iff.mp hx).1 hx⟩
noncomputable def kT:List (Str×Int):= [("grey",1),("rgb",3),("ycc",3),("cmyk",4),("ycck",4)]
noncomputable def nb(m:Str):Int:=((kT.find? λe=>e.1==m).map (·.2)).getD 0
theorem agE:dX H .get (.gd 5) [.str m,.int 0]=.ok (.int (nb m)) H:=by
 have e:((tabS 5).find? λe=>e.1==m).map (·.2)=((kT.find? λe=>e.1==m).map (·.2)).map AV.int:=by have:tabS 5=kT.map λe=>(e.1,AV.int e.2):=rfl;rw[this,K2];show((kT.find? _).map _).map _=((kT.find? _).map _).map _;rw[Iw,Iw];rfl
 show R.ok ((((tabS 5).find? λe=>e.1==m).map (·.2)).getD (.int 0)) H=_;rw[e];unfold nb;cases(kT.find? λe=>e.1==m).map (·.2)<;>rfl
structure wb(m:Str)(p:Nat)(P:List PD):Prop where
 pp:2<=p/\p<=16
 ne:P≠[]
 cnt:m≠"raw"->nb m=P.length/\∀D0 D,P[0]?=some D0->D∈P->D.w=D0.w/\D.h=D0.h
 all:∀D∈P,vI p D
theorem ahh{r:Nat}(h:H[q]?=some (.list xs))(h2:H[r]?=some (.list [])):bj H .eq (.ref q) (.ref r)=some xs.isEmpty:=by
 show aJ (il (.ref q) (.ref r)) (az H q) (λxs=>aJ none (az H r) λys=>if xs.length=ys.length then ff (de H 3) xs ys else some false)=_
 rw[bq h,bq h2]
 cases xs with
 |nil=>rfl
 |cons x xs=>rfl
theorem abh{s t:Str}:bj H .ne (.str s) (.str t)=some (!(s==t)):=rfl
theorem af0{m:Nat}{b c:PE}{x y z:Bool}(h1:ev Γ a m ρ H=.ok (.bool x) H)(h2:ev Γ b m ρ H=.ok (.bool y) H)(h3:ev Γ c m ρ H=.ok (.bool z) H1):∃H2,(H2=H\/H2=H1)/\ev Γ (.bor (.cons a (.cons b (.cons c .nil)))) m ρ H=.ok (.bool (x||(y||z))) H2:=by
 cases x with
 |true=>exact(ae _ (.inl rfl) (bW (dm h1)))
 |false=>
  cases y with
  |true=>exact(ae _ (.inl rfl) (bW (bx h1 (dm h2))))
  |false=>
   cases z with
   |true=>exact(ae _ (.inr rfl) (bW (bx h1 (bx h2 (dm h3)))))
   |false=>exact(ae _ (.inr rfl) (bW (bx h1 (bx h2 (bx h3 fS)))))
end
section
variable {r:Nat}{R:List (List Int)}{i:Int}
theorem tJ.app(h:tJ lo H r R):tJ lo (H++l) r R:=by obtain⟨h0,ps,h1,h2,h3⟩:=h;refine⟨h0,ps,aH h1,h2,λy xs e=>?_⟩;obtain⟨p,e1,e2,e3⟩:=h3 y xs e;exact(aI p e1 e2 (aH e3))
theorem tG.app(h:tG lo H v D):tG lo (H++l) v D:=by obtain⟨r,h1,h2⟩:=h;exact(ae r h1 h2.app)
theorem tL.app(h:tL lo H q P):tL lo (H++l) q P:=by obtain⟨h0,pl,h1,h2,h3⟩:=h;refine⟨h0,pl,aH h1,h2,λk D e=>?_⟩;obtain⟨v,e1,e2⟩:=h3 k D e;exact(ae v e1 e2.app)
theorem tR.app(h:tR lo H v m i P):tR lo (H++l) v m i P:=by obtain⟨q,h1,h2⟩:=h;exact(ae q h1 h2.app)
theorem aoa(g:tL lo H q P)(hp:p<=1000)(hQ:(∀D∈P,vI p D)->∀ρ,Q (.next ρ) H)(hE:∀D∈P,¬vI p D->E 2 H):
  W (CK (af (n+2)) (.cons (.for [2] true (.attr (.var 0) 5) (.cons (.expr (.call 5 (.cons (.var 2) (.cons (.attr (.var 0) 4) .nil)))) .nil)) .nil) [.inst 1 [.str m,.int p,.ref q],a1,a2] H) Q E:=by
 obtain⟨_,pl,g1,g2,g3⟩:=g;refine dk rfl (ay (Xv rfl rfl) rfl) (λk ρ Hc=>Hc=H/\(∃a2,ρ=[.inst 1 [.str m,.int p,.ref q],a1,a2])/\∀k' D,k'<k->P[k']?=some D->vI p D) P.length ?_ ⟨rfl,⟨_,rfl⟩,λk' D h Z=>CP h (Eb _)⟩ (λk ρ Hc Gq Nq hk i uL kq=>?_) (λρ Hc i=>?_) λρ Hc i=>?_
 ·rw[fe g1,g2];exact Nat.le_refl _
 ·(revert i;refine r_aa λzq0 zq1 ih=>?_;subst zq0;obtain⟨a2,rfl⟩:=zq1);obtain⟨D,hD⟩:∃D,P[k]?=some D:=⟨_,List.getElem?_eq_getElem hk⟩;obtain⟨x,e1,e2⟩:=g3 k D hD;have w:=an8 (n:=n) e2 hp;obtain⟨r,rfl,_⟩:=e2;refine(kq _ _ ((cM g1).trans (CN some e1)) rfl ?_)
  cases w with
  |of e q'=>
   (revert q';refine r_aa λzq0 zq1 gd=>?_;subst zq0;clear hQ hE g1 g3;subst zq1);refine aG (eV (aK (ad (Xv rfl rfl) (Xo (ay (Xv rfl rfl) rfl))) e) rfl) (bA (uL _ _ (bT rfl ⟨_,rfl⟩ (λk' D' wY As=>?_))))
   by_cases c:k'=k
   ·clear hk ih e1 uL kq wY;subst c;obtain rfl:=C6 (hD.symm.trans As);exact gd
   ·exact ih k' D' (Ep (Eo wY) c) As
  |xG e q'=>(revert q';refine r_aa λzq0 zq1 gd=>?_;subst zq0;clear hQ g1 g3 uL kq;subst zq1);exact gB (.xG (by rw[E5.expr];exact X2 (aK (ad (Xv rfl rfl) (Xo (ay (Xv rfl rfl) rfl))) e)) (hE D (DZ hD) gd))
 ·clear hQ hE g3;obtain⟨rfl,_⟩:=i;rw[cM g1,Dw (C5 g2)]
 ·(revert i;refine r_aa λzq0 zq1 ih=>?_;clear hE g1 g3;subst zq0;obtain⟨a2,rfl⟩:=zq1);exact bA (hQ (λD hD=>by obtain⟨k,hk⟩:=Jk hD;exact ih k D (List.getElem?_eq_some_iff.mp hk).1 hk) _)
theorem adJ(g:tR lo H v m p P):W (run (n+3) 6 [v] H) (λu H'=>u=.none/\(∃l,H'=H++l)/\wb m p P) (λj H'=>j=2/\(∃l,H'=H++l)/\¬wb m p P):=by
 obtain⟨q,rfl,g⟩:=g;have g':=g;obtain⟨_,pl,g1,g2,g3⟩:=g;refine dH (n:=n+2) (np:=1) (nv:=3) (bd:=pZ) rfl rfl ?_;show W (CK (af (n+2)) pZ [.inst 1 [.str m,.int p,.ref q],.undef,.undef] H) _ _;have en:pl.isEmpty=true↔P=[]:=by rw[DX,<-GC,g2,GC]
 obtain⟨H2,x8,e1⟩:=af0 (Γ:=af (n+2)) (m:=4) (ρ:= [.inst 1 [.str m,.int p,.ref q],.undef,.undef]) (H:=H) (a:=.cmp (.attr (.var 0) 4) .lt (.tm 2)) (b:=.cmp (.attr (.var 0) 4) .gt (.tm 16)) (c:=.cmp (.attr (.var 0) 5) .eq (.list .nil)) (aw (ay (Xv rfl rfl) rfl) Xi (ii rfl)) (aw (ay (Xv rfl rfl) rfl) Xi (eY rfl)) (aw (ay (Xv rfl rfl) rfl) (bB aj (by decide)) (ahh (aH g1) aC));obtain⟨l,rfl⟩:∃l,H2=H++l:=by
  rcases x8 with rfl |rfl
  ·exact⟨[],(Ds _).symm⟩
  ·exact⟨_,rfl⟩
 refine fk e1 (λe=>Wx rfl ⟨rfl,⟨l,rfl⟩,λgp=>?_⟩) λe=>bA ?_
 ·have:=gp.pp;rw[EF,EF,C9,C9] at e;rcases e with e |e |e
  ·exact akB this e
  ·exact akC this e
  ·exact gp.ne (en.mp e)
 ·rw[EZ,EZ,FU,FU] at e;have hp:2<=p/\p<=16:=by omega
  have uu:P≠[]:=λq=>by rw[en.mpr q] at e;cases e.2.2
  have fin:∀a1 a2,(m≠"raw"->nb m=P.length/\∀D0 D,P[0]?=some D0->D∈P->D.w=D0.w/\D.h=D0.h)->W (CK (af (n+2)) (.cons (.for [2] true (.attr (.var 0) 5) (.cons (.expr (.call 5 (.cons (.var 2) (.cons (.attr (.var 0) 4) .nil)))) .nil)) .nil) [.inst 1 [.str m,.int p,.ref q],a1,a2] (H++l))
    (λfl H'=>match fl with | .ret u=>u=.none/\(∃l,H'=H++l)/\wb m p P | .next _=>AV.none=.none/\(∃l,H'=H++l)/\wb m p P) (λj H'=>j=2/\(∃l,H'=H++l)/\¬wb m p P):=λa1 a2 hc=>
   aoa g'.app (by omega) (λha Z=>⟨rfl,⟨l,rfl⟩,hp,uu,hc,ha⟩) λD hD hn=>⟨rfl,⟨l,rfl⟩,λgp=>hn (gp.all D hD)⟩
  have h1:(H++l)[q]?=some (.list pl):=aH g1;have ll:=gf h1;rw[g2] at ll
  refine fk (r:= !(m=="raw")) (aw (ay (Xv rfl rfl) rfl) Xs abh) (λe2=>?_) λe2=>bA (fin _ _ λq=>CP (eq_of_beq (by rw[Gu] at e2;exact e2)) q)
  have hm:m≠"raw":=by rw[Fz,EL] at e2;exact e2
  refine fk (aw (cS rfl Xg rfl (ad (ay (Xv rfl rfl) rfl) (Xo Xi)) agE) (aM rfl (Xo (ay (Xv rfl rfl) rfl)) ll) lL) (λe3=>Wx rfl ⟨rfl,⟨l,rfl⟩,λgp=>?_⟩) λe3=>bA ?_
  ·rw[Fz,EL] at e3;exact e3 (gp.cnt hm).1
  rw[Gu,Df] at e3;obtain⟨D0,At⟩:∃D0,P[0]?=some D0:=⟨_,List.getElem?_eq_getElem (Ii.mpr uu)⟩;obtain⟨x0,i1,r0,rfl,i2⟩:=g3 0 D0 At;refine aG (aD (aR (ay (Xv rfl rfl) rfl) Xi (ci (d:=0) h1 i1))) (dk rfl (ay (Xv rfl rfl) rfl) (λk ρ Hc=>Hc=H++l/\(∃a2,ρ=[.inst 1 [.str m,.int p,.ref q],.inst 0 [.int D0.w,.int D0.h,.ref r0],a2])/\∀k' D,k'<k->P[k']?=some D->D.w=D0.w/\D.h=D0.h) P.length ?_ ⟨rfl,⟨_,rfl⟩,λk' D h Z=>CP h (Eb _)⟩ (λk ρ Hc Gq Nq hk i uL kq=>?_) (λρ Hc i=>?_) λρ Hc i=>?_)
  ·rw[fe h1,g2];exact Nat.le_refl _
  ·(revert i;refine r_aa λzq0 zq1 ih=>?_;subst zq0;obtain⟨a2,rfl⟩:=zq1);obtain⟨D,hD⟩:∃D,P[k]?=some D:=⟨_,List.getElem?_eq_getElem hk⟩;obtain⟨x,j1,r,rfl,j2⟩:=g3 k D hD;refine(kq _ _ ((cM h1).trans (CN some j1)) rfl (fk (afZ (aw (ay (Xv rfl rfl) rfl) (ay (Xv rfl rfl) rfl) lL) (aw (ay (Xv rfl rfl) rfl) (ay (Xv rfl rfl) rfl) lL)) (λe4=>Wx rfl ⟨rfl,⟨l,rfl⟩,λgp=>?_⟩) λe4=>bA (bA (uL _ _ (bT rfl ⟨_,rfl⟩ (λk' D' wY As=>?_))))))
   ·have:=(gp.cnt hm).2 D0 D At (DZ hD);rw[this.1,this.2,DA,DA] at e4;cases e4
   ·rw[EZ,Gu,Gu,Df,Df] at e4
    by_cases c:k'=k
    ·clear hk uL ih kq j1 wY;subst c;obtain rfl:=C6 (hD.symm.trans As);exact e4
    ·exact ih k' D' (Ep (Eo wY) c) As
  ·obtain⟨rfl,_⟩:=i;rw[cM h1,Dw (C5 g2)]
  ·(revert i;refine r_aa λzq0 zq1 ih=>?_;subst zq0;obtain⟨a2,rfl⟩:=zq1);refine bA (fin _ _ λZ=>⟨e3,λD0' D h0 hD=>?_⟩);obtain rfl:=C6 (At.symm.trans h0);obtain⟨k,hk⟩:=Jk hD;exact ih k D (List.getElem?_eq_some_iff.mp hk).1 hk
end
theorem qR{Γ:Ctx}:∀(k:Nat){ss:tW}{ρ ρ':aB}{H H':AH}{t:R Fl},CK Γ (eS k ss) ρ H=.ok (.next ρ') H'->CK Γ (fY k ss) ρ' H'=t->CK Γ ss ρ H=t
 |0,ss,ρ,ρ',H,H',t,h,q=>by
  have:eS 0 ss=.nil:=by clear h q;cases ss<;>rfl
  rw[this,Sn] at h;cases h;have:fY 0 ss=ss:=by clear this q;cases ss<;>rfl
  rw[this] at q;exact q
 |k+1,.nil,ρ,ρ',H,H',t,h,q=>by rw[show eS (k+1) .nil=.nil from rfl,Sn] at h;cases h;exact q
 |k+1,.cons s ss,ρ,ρ',H,H',t,h,q=>by
  obtain⟨fl,H1,e,h⟩:=R.wj (E6.cons (s:=s) (ss:=eS k ss) |>.symm.trans h)
  cases fl with
  |next vk=>exact(E6.cons.trans (CN (R.bind · _) e)).trans (qR k h q)
  |ret v=>cases h
section
theorem ap0{i:Int}(s:tS i)(hi:i.natAbs<10^18)(he:ev (af n) e k ρ H=.ok (.int i) H):ev (af n) (.tT .encode (.bi .str (.cons e .nil)) (.cons (.tO "ascii") .nil)) k ρ H=.ok (.bytes (bf i)) H:=by
 have e1:cT H .str [.int i]=.ok (.str (eR i)) H:=by show av R.bad (i.natAbs<10^18) (R.ok (AV.str (eR i)) H)=_;unfold av;exact CM hi
 have e2:∀(t:Str)(c:Bool),c=true->av R.bad (c=true) (R.ok (AV.bytes (t.cps.toList.map CZ)) H)=R.ok (AV.bytes (t.cps.toList.map CZ)) H:=λt c q=>CM q
 have e3:dX H .encode (.str (eR i)) [.str "ascii"]=.ok (.bytes (bf i)) H:=e2 (eR i) _ (by
  rw(occs:=.all) [Bool.and_eq_true,Bool.and_eq_true,C9];exact⟨⟨DA _,s.low⟩,s.size⟩)
 exact cS rfl (aM rfl (Xo he) e1) rfl (Xo Xs) e3
theorem aiy{x:AV}(h:vs[k]?=some x)(hk:k<1000):eJ H (.tup vs) (.int k)=some x:=by show av none (0<=(k:Int)/\(k:Int)<1000) (vs[(k:Int).toNat]?)=_;unfold av;rw[CM ⟨by exact akD hk,by exact(IX.mp hk)⟩,DW];exact h
def fJ(w h d p:Nat):List Bs:= [aq,aW++[32]++bf w,aV++[32]++bf h,aZ++[32]++bf d,aU++[32]++bf (2^p-1)]
def jd(d:Nat):List Bs:= [[84,85,80,76,84,89,80,69,32]++dW d,aQ,[]]
noncomputable def ac0(w h d p:Nat):List AV:= [.int w,.int h,.int d,.int (2^p-1)]
theorem ah3(D:uJ w h d p)(hf:∀k y x,f k y x<2^p):wb (br d) p (bJ f w h d):=by
 have dl:=D.dd.le;have mem:∀E∈bJ f w h d,∃k,E=iX f w h k:=λE hE=>by(obtain⟨k,_,zq2⟩:=Dz.mp hE;clear hE;subst zq2);exact⟨k,rfl⟩
 have ln:(bJ f w h d).length=d:=by unfold bJ;rw[List.length_map,DI]
 refine⟨D.pp,λe=>?_,λZ=>⟨?_,λD0 E h0 hE=>?_⟩,λE hE=>?_⟩
 ·rw[e] at ln;change 0=d at ln;exact akE dl ln
 ·rw[ln];clear dl mem ln;rcases D.dd with rfl |rfl |rfl<;>decide
 ·obtain⟨k,rfl⟩:=mem E hE;obtain⟨k0,rfl⟩:=mem D0 (DZ h0);exact⟨rfl,rfl⟩
 ·obtain⟨k,rfl⟩:=mem E hE;refine⟨?_,?_,?_,λy xs hy=>?_⟩
  ·have:=D.ww;show(1:Int)<=w;exact oq this
  ·have:=D.hh;show(1:Int)<=h;exact oq this
  ·show(((CS h).map (gk f w k)).length:Int)=h;rw[List.length_map,DI]
  ·change((CS h).map (gk f w k))[y]?=some xs at hy;(obtain⟨y',_,zq2⟩:=Dz.mp (DZ hy);clear hy;subst zq2);unfold gk fF;refine⟨?_,λi z hz=>?_⟩
   ·show(((Ij _ (Ij _ (CS w))).length:Nat):Int)=w;rw[List.length_map,List.length_map,DI]
   ·obtain⟨a,ha,rfl⟩:=Dz.mp (DZ hz);(obtain⟨x,_,zq2⟩:=Dz.mp ha;clear ha hz;subst zq2);have:=hf k y' x;have c:((2^p:Nat):Int)=(2:Int)^p:=FF 2 p;exact⟨DU _,c▸Int.le_sub_one_of_lt (C8.mpr this)⟩
theorem acI(h:xl d):dX H .get (.gd 4) [.int d]=.ok (.str (br d)) H:=by rcases h with rfl |rfl |rfl<;>rfl
theorem aoz(D:uJ w h d p)(hk:k<4):∃nm i,mc[k]?=some (.bytes nm)/\(ac0 w h d p)[k]?=some (.int i)/\tS i/\i.natAbs<10^18/\nm.length<=8/\((fJ w h d p).take (k+1+1))=(fJ w h d p).take (k+1)++[nm++[32]++bf i]:=by
 have sw:=tS.of (dD (k:=w) ⟨D.ww.1,by have:=D.ww;exact fA this⟩);have sh:=tS.of (dD (k:=h) ⟨D.hh.1,by have:=D.hh;exact fA this⟩);have sd:=tS.of (dD D.dd.le);have sm:=tS.of (kR D.pp.2);have dl:=D.dd.le;have dw:=D.ww;have dh:=D.hh;rcases k with _ |_ |_ |_ |k
 ·exact(dT _ _ rfl rfl sw (Nat.lt_of_le_of_lt dw.2 (by decide)) (bE (by decide) rfl))
 ·exact(dT _ _ rfl rfl sh (Nat.lt_of_le_of_lt dh.2 (by decide)) (bE (by decide) rfl))
 ·exact(dT _ _ rfl rfl sd (Nat.lt_of_le_of_lt dl.2 (by decide)) (bE (by decide) rfl))
 ·exact(dT _ _ rfl rfl sm (acK D.pp.2) (bE (by decide) rfl))
 ·exact(rQ hk).elim
theorem aqP(g:tR lo H v (br d) p (bJ f w h d))(D:uJ w h d p)(hf:∀k y x,f k y x<2^p):
  W (CK (af (n+3)) (eS 7 iG) ([v]++CR 5 .undef) H) (λfl H1=>∃x0 a4 a5 r,fl=.next [v,x0,.int d,.ref r,a4,a5]/\H1[r]?=some (.list ((fJ w h d p++jd d).map .bytes))/\Fr H.length H.length H H1) bC:=by
 have dl:=D.dd.le;have pc:=adJ (n:=n) g;obtain⟨q,rfl,gq⟩:=g;obtain⟨pl,g⟩:=gq.seen;obtain⟨r0,e0⟩:=mu g (ac5 dl)
 cases pc with
 |xG e x=>exact CP (ah3 D hf) x.2.2
 |of e x=>
  (revert x;refine r_aa λzq0 zq1 Z=>?_;subst zq0;obtain⟨l,rfl⟩:=zq1);have g1:(H++l)[q]?=some (.list pl):=aH g.list;have ll:=gf g1;rw[g.len] at ll;have em:run (n+3) 40 [.inst 1 [.str (br d),.int p,.ref q]] (H++l++[.list [.bytes aq]])=.ok (.int (2^p-1)) (H++l++[.list [.bytes aq]]):=dQ (np:=1) (nv:=1) (bd:=aaG) rfl rfl (Sr (cR (aK (Xo (ay (Xv rfl rfl) rfl)) (ab8 (by have:=D.pp;exact Nat.le_trans this.2 (by decide))))))
  show W (CK (af (n+3)) (eS 7 iG) [.inst 1 [.str (br d),.int p,.ref q],.undef,.undef,.undef,.undef,.undef] H) _ _;refine aG (eV (aK (Xo (Xv rfl rfl)) e) rfl) (aG (dF rfl (cq (ad (aR (ay (Xv rfl rfl) rfl) Xi (ci (d:=0) g1 e0)) (Xo (aM rfl (Xo (ay (Xv rfl rfl) rfl)) ll)))) rfl) (fQ (aw (cS rfl Xg rfl (Xo (Xv rfl rfl)) (acI D.dd)) (ay (Xv rfl rfl) rfl) na) (aG (aD (bB (Xo Xy) (by decide))) (aG (aD (bB (ad (ay (Xv rfl rfl) rfl) (ad (ay (Xv rfl rfl) rfl) (ad (Xv rfl rfl) (Xo (afd (Xv rfl rfl) rfl em))))) (show 4<=al by decide)))
   (dk rfl (aM rfl (Xo (aM rfl (Xo Xg) rfl)) (eO (k:=4) (by decide))) (λk ρ Hc=>(∃a5,ρ=[.inst 1 [.str (br d),.int p,.ref q],.inst 0 [.int w,.int h,.ref r0],.int d,.ref (H++l).length,.ref (H++l++[AO.list [.bytes aq]]).length,a5])/\Hc[(H++l).length]?=some (.list (((fJ w h d p).take (k+1)).map .bytes))/\Hc[(H++l++[AO.list [.bytes aq]]).length]?=some (.list (ac0 w h d p))/\Fr H.length H.length H Hc) 4 (Nat.le_refl 4) (bY ⟨_,rfl⟩ (aH aC) aC ?_) (λk ρ Hc Gq Nq hk i uL kq=>?_) (λρ Hc i=>rfl) λρ Hc i=>?_)))))
  ·rw[List.append_assoc,List.append_assoc];exact .app (Nat.le_refl _)
  ·(revert i;refine r_aaa λzq0 h1 h2 fr=>?_;obtain⟨a5,rfl⟩:=zq0);refine o_eeaaaa (aoz D hk) λnm i q1 q2 q3 q4=>r_a λq5 q6=>?_;have sl:=q3.len;have lr:(H++l).length≠(H++l++[AO.list [.bytes aq]]).length:=by rw[List.length_append (as:=H++l)];exact CV (D6 _)
   refine(kq (.int k) _ (by rw[show(AV.uV 0 ((4:Nat):Int) 1)=.uV 0 ((4:Nat):Int) 1 from rfl,cr,CM hk]) rfl (aG (eV (cS rfl (Xv rfl rfl) (iD h1) (Xo (am (am (aR Xg (Xv rfl rfl) (aiy q1 (akF hk))) Xy (eB (by show _+1<_;exact Nat.lt_of_le_of_lt (EK q5) (by decide)))) (ap0 q3 q4 (aR (Xv rfl rfl) (Xv rfl rfl) (ci h2 q2))) (eB (by rw[List.length_append];show _+1+_<_;exact Nat.lt_of_le_of_lt (Dd (EK q5) sl) (by decide))))) (iE h1 ?_)) rfl) (bA (uL _ _ (bY ⟨_,rfl⟩ ?_ ?_ ?_)))))
   ·rw[List.length_map,Dn];unfold al;exact Nat.lt_of_le_of_lt (Nat.le_trans (Gf ..) hk) (by decide)
   ·rw[iZ (cD h1),q6,Dx];rfl
   ·exact(DN lr).trans h2
   ·exact fr.trans (.put (.inr (by rw[List.length_append];exact Nat.le_add_right _ _)))
  ·(revert i;refine r_aaa λzq0 h1 h2 fr=>?_;obtain⟨a5,rfl⟩:=zq0);have kl:=(rn D.dd).2;have ea:=jS (H:=Hc++[.list ((jd d).map .bytes)]) (aH h1) aC (by rw[List.length_map,Dn,List.length_map];show min _ 5+3<_;exact Nat.lt_of_sub_eq_succ rfl);rw[show(fJ w h d p).take (4+1)=fJ w h d p from rfl,<-Dx] at ea;refine aG (aD (am (Xv rfl rfl) (bB (ad (am Xy (aR Xg (Xv rfl rfl) (rm D.dd)) (eB (by show 9+_<_;exact Nat.lt_of_le_of_lt (C4 kl 9) (by decide)))) (ad Xy (ad Xy aj))) (show 3<=al by decide)) ea)) (bA (ef _ _ _ _ rfl aC ?_));rw[List.append_assoc];exact fr.trans (.app fr.le)
end
def Tw(w h d p:Nat):List (Bs×Bs):= [([10],aW),([32],bf w),([10],aV),([32],bf h),([10],aZ),([32],bf d),([10],aU),([32],bf (2^p-1)),([10],bX),([32],dW d),([10],aQ)]
theorem ahO:wU [10]:=(q8 (x:= [10]) (y:= []) (by decide) (by decide)).1
theorem ahP:wU [32]:=(q8 (x:= [32]) (y:= []) (by decide) (by decide)).1
section
theorem qr(D:uJ w h d p):Good (cB w h d p true) w h d p:=by have:=adR (t:=true) (k:=0) D (by decide);unfold fE at this;rw[Ic,Em,Ds] at this;exact this
theorem aqi(D:uJ w h d p):Text (Tw w h d p) (cB w h d p true):=⟨rfl,λt ht=>by unfold Tw at ht;simp only[CX,DK,DM] at ht;rcases ht with rfl |rfl |rfl |rfl |rfl |rfl |rfl |rfl |rfl |rfl |rfl<;>first |exact ahO |exact ahP,(qr D).names,by have:=(qr D).len;exact(Nat.lt_of_le_of_lt this (by decide))⟩
theorem aiK:ct [10] (fJ w h d p++jd d)=aq++ak (Tw w h d p) [10]:=by have j:∀x y r,ct [10] (x::y::r)=x++[10]++ct [10] (y::r):=λ_ _ _=>rfl;have j1:∀x,ct [10] [x]=x:=λ_=>rfl;have f0:∀r,ak [] r=r:=λ_=>rfl;delta fJ jd Tw bX;simp only[Hb,Lj,Ds,j,j1,ahx,f0,List.append_assoc]
theorem af6:∀{l:List Bs},uH (l.map AV.bytes)=some l:=by
 intro zi
 induction zi with
 |nil=>
 exact rfl
 |cons x l ih=>
 exact by
  show(some x).bind (λx=>(uH (l.map AV.bytes)).map (x::·))=_;rw[ih];rfl
theorem aiL{r:Nat}{l:List Bs}(h1:H[r]?=some (.list (l.map .bytes)))(h2:2<=l.length)(h3:(ct [10] l).length<=al):dX H .join (.bytes [10]) [.ref r]=.ok (.bytes (ct [10] l)) H:=by show aJ R.bad (az H r) (λxs=>aJ R.bad (uH xs) λbs=>av R.bad (2<=bs.length) (jB (ct [10] bs) H))=_;rw[bq h1];show aJ R.bad (uH (l.map .bytes)) (λbs=>av R.bad (2<=bs.length) (jB (ct [10] bs) H))=_;rw[af6];exact(CM h2).trans (CM h3)
theorem ai6(D:uJ w h d p):ba (Tw w h d p)<=1000:=by have sw:=(tS.of (dD (k:=w) ⟨D.ww.1,by have:=D.ww;exact fA this⟩)).len;have sh:=(tS.of (dD (k:=h) ⟨D.hh.1,by have:=D.hh;exact fA this⟩)).len;have sd:=(tS.of (dD D.dd.le)).len;have sm:=(tS.of (kR D.pp.2)).len;have kd:=(rn D.dd).2;have f0:ba []=0:=rfl;delta Tw aW aV aZ aU bX aQ;simp only[ai4,f0,Di,Ld];exact Nat.le_trans (C4 (Dd (C4 sw _) (C4 (Dd (C4 sh _) (C4 (Dd (C4 sd _) (C4 (Dd (C4 sm _) (C4 (En (C4 kd _) _) _)) _)) _)) _)) _) (by decide)
theorem lT(D:uJ w h d p):(au f w h d).length<=36:=by rw[fZ];exact Ez (Ez D.hh.2 D.ww.2) D.dd.le.2
theorem ab2(D:uJ w h d p):0<(au f w h d).length:=by rw[fZ];exact Hq (Hq D.hh.1 D.ww.1) D.dd.le.1
theorem kb(hf:∀k y x,f k y x<2^p):∀x∈au f w h d,x<2^p:=λx hx=>by(obtain⟨i,_,zq2⟩:=Dz.mp hx;clear hx;subst zq2);exact hf _ _ _
def lG(f:Nat->Nat->Nat->Nat)(w h d p:Nat):Bs:=aq++ak (Tw w h d p) (10::(aE (ah p) (au f w h d)++[]))
theorem af2:lG f w h d p=ct [10] (fJ w h d p++jd d)++aE (ah p) (au f w h d):=by unfold lG;rw[aiK,iM (r:=10::(aE (ah p) (au f w h d)++[])),iM (r:= [10]),Ds];simp only[List.append_assoc,Hb,Lj]
theorem aaO(D:uJ w h d p):(lG f w h d p).length<10000:=by unfold lG;rw[iU,Ds];have:=ai6 D;have:=lT (f:=f) D;have:=jo (p:=p) (fl:=au f w h d);exact Nat.lt_of_le_of_lt (Dd (En (C4 (by assumption) 2) 1) (Nat.le_trans this (Eh 2 (by assumption)))) (by decide)
theorem aj6:∀{fl:List Nat},(∀x∈fl,x<65536)->cO (fl.map λx:Nat=>(x:Int))=aE 2 fl:=by
 intro zi
 induction zi with
 |nil=>
 exact @λZ=>rfl
 |cons x fl ihq=>
 exact @λhx=>by
  have ih:=ihq λy hy=>hx y (Dt _ hy);have h1:mi (x:Int)=fp 2 x:=by unfold mi fp;rw[CQ (by decide),GW _ (by decide),GX _ (by decide)];rfl
  show mi (x:Int)++cO (fl.map λx:Nat=>(x:Int))=_;rw[ih,h1];rfl
theorem ag7:∀{fl:List Nat},((fl.map λx:Nat=>(x:Int)).map λn=>CZ n.toNat)=aE 1 fl:=by
 intro zi
 induction zi with
 |nil=>
 exact rfl
 |cons x fl ih=>
 exact by
  rw[jn,<-ih];rfl
theorem aj9{r:Nat}(hr:H[r]?=some (.list (aA fl)))(hp:p<=8)(hx:∀x∈fl,x<256):run (n+1) 10 [.ref r,.int p] H=.ok (.bytes (aE 1 fl)) H:=by
 have e:cT H .bytes [.ref r]=.ok (.bytes (aE 1 fl)) H:=by
  show aJ R.bad (az H r) (λxs=>aJ R.bad (u9 xs) λns=>av R.bad ((ns.all λn=>decide (0<=n)&&decide (n<256))=true) (R.ok (AV.bytes (ns.map λn=>CZ n.toNat)) H))=_;rw[bq hr];show aJ R.bad (u9 (aA fl)) (λns=>av R.bad ((ns.all λn=>decide (0<=n)&&decide (n<256))=true) (R.ok (AV.bytes (ns.map λn=>CZ n.toNat)) H))=_;rw[ace];have h1:((fl.map λx:Nat=>(x:Int)).all λn=>decide (0<=n)&&decide (n<256))=true:=by rw[Ja,C1];intro x z0;have:=hx x z0;show(decide (0<=(x:Int))&&decide ((x:Int)<256))=true;rw[Db (akG this),Db (IX.mp this)];rfl
  have h2:=ag7 (fl:=fl);exact(CM h1).trans (by rw[h2])
 refine dQ (np:=2) (nv:=4) (bd:=mX) rfl rfl ?_;show CK (af n) mX [.ref r,.int p,.undef,.undef] H=_;exact Sr (d8 (aw (Xv rfl rfl) Xi (eZ (Db (FJ rfl rfl hp)))) (Sr (cR (aM rfl (Xo (Xv rfl rfl)) e))))
theorem aqV(g:tR lo H v (br d) p (bJ f w h d))(hl:0<lo)(D:uJ w h d p)(hf:∀k y x,f k y x<2^p):
  ∃H',Wr (n+4) v H (lG f w h d p) H'/\Fr H.length H.length H H':=by
 have dl:=D.dd.le;(refine o_eeaeee ((aqP (n:=n) g D hf).ok) λfl H1 e1 x0 a4 a5=>r_eaa λr zq7 g1 f1=>?_;subst zq7);obtain⟨q,rfl,gq⟩:=g;have gq1:tL lo H1 q (bJ f w h d):=gq.fr (f1.any (b:=0) (Nat.le_refl _)) hl;have wr5:(fJ w h d p++jd d).length=8:=rfl;have lw:=aaO (f:=f) D;rw[af2] at lw⊢;have lj:(ct [10] (fJ w h d p++jd d)).length<=al:=by rw[List.length_append] at lw;unfold al;exact Nat.le_trans (Nat.le_add_right ..) (Nat.le_trans (CU lw) (by decide))
 have ej:=aiL (H:=H1) g1 (by rw[wr5];decide) lj;have e8:=apj (n:=n+2) gq1 dl.1 (by have:=D.ww;exact gT this) (by have:=D.hh;exact gT this) (Nat.le_trans dl.2 (by decide));have ea:uj (af (n+3)) mR 4 [.inst 1 [.str (br d),.int p,.ref q],x0,.int d,.ref r,a4,a5] H1=.ok [.ref H1.length,.int p] (H1++[.list (aA (au f w h d))]):=ad (aK (Xo (ay (Xv rfl rfl) rfl)) e8) (Xo (ay (Xv rfl rfl) rfl))
 have ejo:ev (af (n+3)) nT 4 [.inst 1 [.str (br d),.int p,.ref q],x0,.int d,.ref r,a4,a5] H1=.ok (.bytes (ct [10] (fJ w h d p++jd d))) H1:=cS rfl Xy rfl (Xo (Xv rfl rfl)) ej
 by_cases hp:p<=8
 ·have sz:ah p=1:=CM hp;rw[sz] at lw⊢;refine(ae (H1++[.list (aA (au f w h d))]) (.inl (dQ (np:=1) (nv:=6) (bd:=iG) rfl rfl (qR 7 e1 ?_))) (f1.trans (.app f1.le)));have pw:2^p<=256:=Gg (n:=2) (by decide) hp;have Aj:=aj9 (n:=n+2) (H:=H1++[.list (aA (au f w h d))]) (p:=p) aC hp λx hx=>Nat.lt_of_lt_of_le (kb hf x hx) pw;show CK (af (n+3)) (.cons (.ret (.bin .add nT (.call 10 mR))) .nil) _ H1=_;exact Sr (cR (am ejo (aK ea Aj) (eB (by rw[<-List.length_append];exact CT lw (by decide)))))
 ·have sz:ah p=2:=CQ hp;rw[sz] at lw⊢;have pw:2^p<=65536:=Gg (n:=2) (by decide) D.pp.2;have ox:=aj6 (fl:=au f w h d) λx hx=>Nat.lt_of_lt_of_le (kb hf x hx) pw;refine(ae (H1++[.list (aA (au f w h d))]++[.uv (aE 2 (au f w h d))]) (.inr (ae (n+2) rfl ⟨_,H1,_,H1.length,p,(au f w h d).map (λx:Nat=>(x:Int)),_,e1,ejo,ea,?_,by exact ada hp,λz hz=>?_,?_,by rw[ox],by unfold al;exact akI lw,by rw[ox]⟩)) ?_)
  ·rw[bq aC];unfold aA;rw(occs:=.all) [Gd];rfl
  ·(obtain⟨x,hx,zq2⟩:=Dz.mp hz;clear hz;subst zq2);have:=kb hf x hx;exact akJ pw this
  ·have:=lT (f:=f) D;rw[List.length_map];unfold al;exact Nat.le_trans (Ea 2 this) (by decide)
  ·rw[List.append_assoc];exact f1.trans (.app f1.le)
end
def lc:List (Bs×List Bs):= [(aW,[[48],[54,53,53,51,54],[57,57,57,57,57,57,57,57,57]]),(aV,[[48],[54,53,53,51,54],[55,48,48,48,48]]),(aZ,[[48],[50],[53]]),(aU,[[48],[49],[49,51,49,48,55,49],[50],[54],[50,53,52],[54,53,53,51,52]])]
theorem aeQ:(lc.all λx=>x.2.all λv=>bS v&&iT v&&decide (v.length<=9))=true:=by decide
noncomputable def oW(x:Int):Bool:= !(decide (1<=x)&&decide (x<=65535))
theorem aqU:([[48],[54,53,53,51,54],[57,57,57,57,57,57,57,57,57]].all λv:Bs=>oW (dec v))=true:=by decide
theorem aqR:([[48],[54,53,53,51,54],[55,48,48,48,48]].all λv:Bs=>oW (dec v))=true:=by decide
theorem aqQ:([[48],[50],[53]].all λv:Bs=>decide (dec v∈[(0:Int),2,5]))=true:=by decide
theorem aqS:([[48],[49],[49,51,49,48,55,49],[50],[54],[50,53,52],[54,53,53,51,52]].all λv:Bs=>decide (dec v∈[(0:Int),1,131071,2,6,254,65534]))=true:=by decide
noncomputable def gE(nm v:Bs)(x:Bs×Bs):Bs×Bs:=(x.1,if x.1==nm then v else x.2)
section
variable {v:Bs}{vs:List Bs}
theorem agl(g:Good ws w h d p)(hv:bS v=true):gQ (ws.map (gE nm v)) []:=by
 refine acS ?_ (λx hx=>?_) (λZ Z=>rfl) (by rw[List.length_map];have:=g.len;show 0+_<=_;exact ac4 this)
 ·rw[Gd];exact g.pw
 ·(obtain⟨y,hy,zq2⟩:=Dz.mp hx;clear hx;subst zq2);refine⟨(g.ze y hy).1,?_⟩;show bS (if y.1==nm then v else y.2)=true
  split
  ·exact hv
  ·exact(g.ze y hy).2.1
theorem m9{k u:Bs}(h:(k,u)∈ws):(k,if k==nm then v else u)∈ws.map (gE nm v):=Dz.mpr (ae (k,u) h rfl)
theorem aqT(g:Good ws w h d p)(D:uJ w h d p)(hx:(nm,vs)∈lc)(hv:v∈vs)(x:Text T (ws.map (gE nm v)))(hc:eQ c)(ho:(aq++ak T (c::rest)).length<100000):
  ∃H',run (n+4) 17 [.bytes (aq++ak T (c::rest))] H=.exc 2 H'/\Fr H.length H.length H H':=by
 have Ae:=C1.mp (C1.mp aeQ _ hx) v hv;rw[Bool.and_eq_true,Bool.and_eq_true,C9] at Ae;have sw:=tS.of (dD (k:=w) ⟨D.ww.1,by have:=D.ww;exact fA this⟩);have sh:=tS.of (dD (k:=h) ⟨D.hh.1,by have:=D.hh;exact fA this⟩);have sd:=tS.of (dD D.dd.le);have sm:=tS.of (kR D.pp.2);have dd:∀(k:Bs)(u:Bs),iT u=true/\u.length<=9->iT (if k==nm then v else u)=true/\(if k==nm then v else u).length<=9:=λk u hu=>by
  split
  ·exact⟨Ae.1.2,Ae.2⟩
  ·exact hu
 have t:=aeF x.names (m9 (nm:=nm) (v:=v) g.mw) (m9 g.mh) (m9 g.md) (m9 g.mm) (by
  intro u hu;simp only[CX,DK,DM] at hu;rcases hu with rfl |rfl |rfl |rfl
  ·exact dd _ _ ⟨sw.dig,sw.len⟩
  ·exact dd _ _ ⟨sh.dig,sh.len⟩
  ·exact dd _ _ ⟨sd.dig,sd.len⟩
  ·exact dd _ _ ⟨sm.dig,sm.len⟩)
 have kk:∀u,cN (ws.map (gE nm v)) bX=some u->nm≠bX->u=dW d:=λu hu hn=>by
  obtain⟨y,hy,e⟩:=Dz.mp (acy hu);obtain⟨a,b⟩:=y;have e1:a=bX:=CN Prod.fst e;have e2:(if a==nm then v else b)=u:=CN Prod.snd e
  rw[e1,CQ (λq=>hn (eq_of_beq q).symm)] at e2;rw[<-e2];exact g.kk b (e1▸hy)
 have dw:=D.ww;have dh:=D.hh;have side:∀{x:Int},oW x=true->(decide (1<=x)&&decide (x<=65535))=false:=λ{x} q=>by unfold oW at q;rw[Fz] at q;exact q
 have okw:(decide (1<=(w:Int))&&decide ((w:Int)<=65535))=true:=by rw[Db (oq dw),Db (adb dw)];rfl
 have okh:(decide (1<=(h:Int))&&decide ((h:Int)<=65535))=true:=by rw[Db (oq dh),Db (adb dh)];rfl
 unfold lc at hx;simp only[CX,DK,DM,Ix] at hx;clear dd;rcases hx with⟨rfl,rfl⟩ |⟨rfl,rfl⟩ |⟨rfl,rfl⟩ |⟨rfl,rfl⟩
 ·have b:=side (C1.mp aqU v hv);exact nZ x t hc ho (.inl (by rw[show dec (if aW==aW then v else bf w)=dec v from rfl,b,HO]))
 ·have b:=side (C1.mp aqR v hv);exact nZ x t hc ho (.inl (by rw[show dec (if aV==aV then v else bf h)=dec v from rfl,b,HM]))
 ·have b:=Dv (C1.mp aqQ v hv);refine nZ x t hc ho (.inr ⟨?_,.inl b⟩);rw(occs:=.all) [show dec (if aW==aZ then v else bf w)=dec (bf w) from rfl,show dec (if aV==aZ then v else bf h)=dec (bf h) from rfl,sw.dec,sh.dec,okw,okh];rfl
 ·have b:=Dv (C1.mp aqS v hv);refine nZ x t hc ho (.inr ⟨?_,.inr (cY d ?_ D.dd (λu hu=>kk u hu (by decide)) b)⟩)
  ·rw(occs:=.all) [show dec (if aW==aU then v else bf w)=dec (bf w) from rfl,show dec (if aV==aU then v else bf h)=dec (bf h) from rfl,sw.dec,sh.dec,okw,okh];rfl
  ·exact sd.dec
theorem aha:∀{j:Nat},(aE (ah p) fl).take (ah p*j)=aE (ah p) (fl.take j):=by
 induction fl with
 |nil=>intro j;rw(occs:=.all) [GG];exact GG
 |cons x fl ih=>
  intro j
  cases j with
  |zero=>rw[Iv,Em,Em];rfl
  |succ j=>rw[Hl,jn,jn,Iu,Lp,j9,EH (by rw[j9];exact EU _ _),GI,ih]
theorem ag9:∀{j:Nat},(aE (ah p) fl).drop (ah p*j)=aE (ah p) (fl.drop j):=by
 induction fl with
 |nil=>intro j;rw(occs:=.all) [Ji];exact Ji
 |cons x fl ih=>
  intro j
  cases j with
  |zero=>rw[Iv,Ic,Ic]
  |succ j=>rw[List.drop_succ_cons,jn,Iu,List.drop_append,j9,List.drop_of_length_le (by rw[j9];exact EU _ _),GI,ih];rfl
end
section
noncomputable def wl(nm:Bs)(r:Nat):AV:=.tup [.bytes nm,.ref r]
noncomputable def wv(vs:List Bs):AO:=.list (vs.map .bytes)
noncomputable def vW:List Bs:= [[48],[54,53,53,51,54],[57,57,57,57,57,57,57,57,57]]
noncomputable def vH:List Bs:= [[48],[54,53,53,51,54],[55,48,48,48,48]]
noncomputable def vD:List Bs:= [[48],[50],[53]]
noncomputable def vM:List Bs:= [[48],[49],[49,51,49,48,55,49],[50],[54],[50,53,52],[54,53,53,51,52]]
theorem an4{r4:Nat}{L3:List AV}(g:H[r4]?=some (.list L3))(hl:L3.length<=10)(Ba:ρ[3]?=some (.ref r4)):ev (af n) (.bin .add (.var 3) (.list (.cons (.tup (.cons (.tu [77,65,88,86,65,76]) (.cons (.list (.cons (.tu [48]) (.cons (.tu [49]) (.cons (.tu [49,51,49,48,55,49]) (.cons (.tu [50]) (.cons (.tu [54]) (.cons (.tu [50,53,52]) (.cons (.tu [54,53,53,51,52]) .nil)))))))) .nil))) .nil))) 4 ρ H
   =.ok (.ref (H.length+2)) (H++[wv vM]++[.list [wl aU H.length]]++[.list (L3++[wl aU H.length])]):=by
 have e:=jS (H:=H++[wv vM]++[.list [wl aU H.length]]) (aH (aH g)) aC (by show _+1<_;exact Nat.lt_of_le_of_lt (EK hl) (by decide));rw[show(H++[wv vM]++[AO.list [wl aU H.length]]).length=H.length+2 by rw[List.length_append,List.length_append];rfl] at e;exact am (Xv Ba rfl) (bB (Xo (cq (ad Xy (Xo (bB (ad Xy (ad Xy (ad Xy (ad Xy (ad Xy (ad Xy (ad Xy aj))))))) (by decide)))))) (show 1<=al by decide)) e
theorem an5(hb:Bk b H):∃a3 nm vs v r H',CK (af (n+1)) (eS 3 lz) ([.ref b,a1,a2]++CR 12 .undef) H=.ok (.next [.ref b,a1,a2,a3,.bytes nm,.ref r,.bytes v,.undef,.undef,.undef,.undef,.undef,.undef,.undef,.undef]) H'/\(nm,vs)∈lc/\v∈vs/\Fr b H.length H H'/\Bk b H':=by
 have bl:=hb.lt;have e1:ev (af (n+1)) (.list (.cons (.tup (.cons (.tu [87,73,68,84,72]) (.cons (.list (.cons (.tu [48]) (.cons (.tu [54,53,53,51,54]) (.cons (.tu [57,57,57,57,57,57,57,57,57]) .nil)))) .nil))) (.cons (.tup (.cons (.tu [72,69,73,71,72,84]) (.cons (.list (.cons (.tu [48]) (.cons (.tu [54,53,53,51,54]) (.cons (.tu [55,48,48,48,48]) .nil)))) .nil))) (.cons (.tup (.cons (.tu [68,69,80,84,72]) (.cons (.list (.cons (.tu [48]) (.cons (.tu [50]) (.cons (.tu [53]) .nil)))) .nil))) .nil)))) 4 ([.ref b,a1,a2]++CR 12 .undef) H
   =.ok (.ref (H++[wv vW]++[wv vH]++[wv vD]).length) (H++[wv vW]++[wv vH]++[wv vD]++[.list [wl aW H.length,wl aV (H++[wv vW]).length,wl aZ (H++[wv vW]++[wv vH]).length]]):=
  bB (ad (cq (ad Xy (Xo (bB (ad Xy (ad Xy (ad Xy aj))) (by decide))))) (ad (cq (ad Xy (Xo (bB (ad Xy (ad Xy (ad Xy aj))) (by decide))))) (ad (cq (ad Xy (Xo (bB (ad Xy (ad Xy (ad Xy aj))) (by decide))))) aj))) (show 3<=al by decide)
 (revert e1;refine cX (H++[wv vW]++[wv vH]++[wv vD]) λH3 h3 e1=>?_);have q1:H3[H.length]?=some (wv vW):=by rw[<-h3];exact aH (aH aC)
 have q2:H3[(H++[wv vW]).length]?=some (wv vH):=by rw[<-h3];exact aH aC
 have q3:H3[(H++[wv vW]++[wv vH]).length]?=some (wv vD):=by rw[<-h3];exact aC
 have f3:Fr b H.length H H3:=by rw[<-h3,List.append_assoc,List.append_assoc];exact .app (Nat.le_refl _)
 have b3:Bk b H3:=by rw[<-h3];exact hb.app.app.app
 (revert e1 q2;refine gn ((H++[wv vW]).length) λr2 e1 q2=>?_);(revert e1 q3;refine gn ((H++[wv vW]++[wv vH]).length) λr3 q3 e1=>?_);have g4:(H3++[AO.list [wl aW H.length,wl aV r2,wl aZ r3]])[H3.length]?=some (.list [wl aW H.length,wl aV r2,wl aZ r3]):=aC;have q1:=aH (l:= [.list [wl aW H.length,wl aV r2,wl aZ r3]]) q1;have q2:=aH (l:= [.list [wl aW H.length,wl aV r2,wl aZ r3]]) q2;have q3:=aH (l:= [.list [wl aW H.length,wl aV r2,wl aZ r3]]) q3;have f4:=f3.trans (.app f3.le (l:= [.list [wl aW H.length,wl aV r2,wl aZ r3]]));have b4:=b3.app (l:= [.list [wl aW H.length,wl aV r2,wl aZ r3]]);(revert e1 g4 q1 q2 q3 f4 b4;refine gn (H3++[AO.list [wl aW H.length,wl aV r2,wl aZ r3]]) λH4 e1 g4 q1 q2 q3 f4 b4=>?_);(revert e1 g4;refine gn H3.length λr4 e1 g4=>?_);have e2:=an4 (n:=n+1) (ρ:= [.ref b,a1,a2,.ref r4,.undef,.undef,.undef,.undef,.undef,.undef,.undef,.undef,.undef,.undef,.undef]) g4 (show 3<=10 by decide) rfl;have p1:=aH (l:= [wv vM]++[.list [wl aU H4.length]]++[.list ([wl aW H.length,wl aV r2,wl aZ r3]++[wl aU H4.length])]) q1;have p2:=aH (l:= [wv vM]++[.list [wl aU H4.length]]++[.list ([wl aW H.length,wl aV r2,wl aZ r3]++[wl aU H4.length])]) q2;have p3:=aH (l:= [wv vM]++[.list [wl aU H4.length]]++[.list ([wl aW H.length,wl aV r2,wl aZ r3]++[wl aU H4.length])]) q3;rw[<-List.append_assoc,<-List.append_assoc] at p1 p2 p3;have p4:(H4++[wv vM]++[AO.list [wl aU H4.length]]++[AO.list ([wl aW H.length,wl aV r2,wl aZ r3]++[wl aU H4.length])])[H4.length]?=some (wv vM):=aH (aH aC);have p5:(H4++[wv vM]++[AO.list [wl aU H4.length]]++[AO.list ([wl aW H.length,wl aV r2,wl aZ r3]++[wl aU H4.length])])[H4.length+2]?=some (.list ([wl aW H.length,wl aV r2,wl aZ r3]++[wl aU H4.length])):=by have:=aC (H:=H4++[wv vM]++[AO.list [wl aU H4.length]]) (o:=AO.list ([wl aW H.length,wl aV r2,wl aZ r3]++[wl aU H4.length]));rw[List.length_append (as:=H4++[wv vM]),List.length_append] at this;exact this
 have f5:=f4.trans (.app f4.le (l:= [wv vM]++[.list [wl aU H4.length]]++[.list ([wl aW H.length,wl aV r2,wl aZ r3]++[wl aU H4.length])]));rw[<-List.append_assoc,<-List.append_assoc] at f5;have b5:=(b4.app (l:= [wv vM])).app (l:= [.list [wl aU H4.length]]) |>.app (l:= [.list ([wl aW H.length,wl aV r2,wl aZ r3]++[wl aU H4.length])]);have c4:=f4.le;have s1:=cD q1;have s2:=cD q2;have s3:=cD q3;(revert e2 p1 p2 p3 p4 p5 f5 b5;refine gn (H4++[wv vM]++[AO.list [wl aU H4.length]]++[AO.list ([wl aW H.length,wl aV r2,wl aZ r3]++[wl aU H4.length])]) λH5 e2 p1 p2 p3 p4 p5 f5 b5=>?_);obtain⟨k,H6,hk,e6,f6,b6⟩:=dq (n:=n) b5 (top:=4) (by decide) (by decide);have pick:∃nm vs r,(nm,vs)∈lc/\([wl aW H.length,wl aV r2,wl aZ r3]++[wl aU H4.length])[k]?=some (wl nm r)/\H5[r]?=some (wv vs)/\r≠b/\0<vs.length/\vs.length<100:=by
  clear e6;rcases k with _ |_ |_ |_ |k
  ·exact(ce _ vW _ (by decide) rfl p1 (bT (Du (CV bl)) (by decide) (by decide)))
  ·refine(ce _ vH _ (by decide) rfl p2 (bT (λq=>?_) (by decide) (by decide)));obtain⟨s,t,h⟩:=b5;rw[q,h] at p2;cases p2
  ·refine(ce _ vD _ (by decide) rfl p3 (bT (λq=>?_) (by decide) (by decide)));obtain⟨s,t,h⟩:=b5;rw[q,h] at p3;cases p3
  ·exact(ce _ vM _ (by decide) rfl p4 (bT (C2 (CT bl s1)) (by decide) (by decide)))
  ·exact(rQ hk).elim
 (revert pick;refine r_eeeaaa λnm vs r hm hi hr=>r_aa λxg A6 zm=>?_);have p6:=f6.get (akL bl s1) p5;have r6:=f6.get xg hr;have lr:=gf r6;rw[List.length_map] at lr;obtain⟨j,H7,hj,e7,f7,b7⟩:=dq (n:=n) b6 (top:=vs.length) A6 (CT zm (by decide));have r7:=f7.get xg r6;have ij:(vs.map AV.bytes)[j]?=some (.bytes (vs[j]'hj)):=by rw[De,List.getElem?_eq_getElem hj];rfl
 refine(dU (.ref r4) nm vs _ r H7 (gM ?_ hm (Gb hj) ((f5.trans (f6.less f5.le)).trans (f7.less (Nat.le_trans f5.le f6.le))) b7));exact Sc (aD e1) (Sc (dF rfl (aR e2 (aK (ad (Xv rfl rfl) (ad Xi aj)) e6) (ci p6 hi)) rfl) (Sc (aD (aR (Xv rfl rfl) (aK (ad (Xv rfl rfl) (Xo (aM rfl (Xo (Xv rfl rfl)) lr))) e7) (ci r7 ij))) Sn))
end
def aa4(nm v:Bs)(x:AV):AV:=iu .none x λl=>match l with
 |[a,t]=>bI .none a λs=>bI .none t λu=>aY (gE nm v (s,u))
 |_=>.none
section
variable {wr:Nat}{v:Bs}{vs:List Bs}
theorem abf{x y:Bs}:bj H .eq (.bytes x) (.bytes y)=some (x==y):=rfl
theorem aiz{s u:Bs}(h1:ρ[13]?=some (.bytes s))(h2:ρ[4]?=some (.bytes nm))(h3:ρ[6]?=some (.bytes v))(h4:ρ[14]?=some (.bytes u)):ev (af n) (.vd (.cmp (.var 13) .eq (.var 4)) (.var 6) (.var 14)) 3 ρ H=.ok (.bytes (if s==nm then v else u)) H:=by
 cases e:s==nm with
 |true=>exact jR (aw (Xv h1 rfl) (Xv h2 rfl) (abf.trans (CN some e))) (Xv h3 rfl)
 |false=>exact jQ (aw (Xv h1 rfl) (Xv h2 rfl) (abf.trans (CN some e))) (Xv h4 rfl)
theorem ajE{x:Bs}(h:0<x.length)(hl:x.length<1000):dc .mul (.bytes x) (.int 9) H=.ok (.bytes (CR 9 x).flatten) H:=by
 have:x.length*9<=al:=by unfold al;exact Nat.le_trans (Eh 9 (CU hl)) (by decide)
 exact CM (bY h this (by decide) (by decide))
theorem rG(g:Good ws w h d p):∀x∈ws,(x.1==aQ)=false:=λx hx=>nj (g.ze x hx).1
theorem sT{zQ:List (Bs×Bs)}(o:vY b H H' zQ T c sp)(hn:gQ zQ [])(hl:zQ.length<=5):Text T zQ:=⟨o.words,o.wM,hn,by exact(Nat.lt_of_le_of_lt hl (by decide))⟩
theorem aeO:∀{ws:List (Bs×Bs)},(jN ws).length=2*ws.length+1:=by
 intro zi
 induction zi with
 |nil=>
 exact rfl
 |cons zp ws ih=>
 obtain⟨a,b⟩:=zp;exact by
  show(jN ws).length+1+1=_;rw[ih,Di];exact Nat.add_left_inj.mpr rfl
theorem sB{zQ:List (Bs×Bs)}(o:vY b H H' zQ T c sp)(hl:zQ.length<=5):ba T<=396:=by have h1:=CN DO o.words;rw[List.length_map,aeO] at h1;have:=o.short;exact Nat.le_trans this (Ea 36 (h1▸EK (Ea 2 hl)):_<=36*11)
theorem qB:aq++ak T []++[c]++rest=aq++ak T (c::rest):=by rw[iM (r:=c::rest),List.append_assoc,List.append_assoc];rfl
theorem aca{x y:AV}:eJ H (.tup [x,y]) (.int 0)=some x:=rfl
theorem aoo{x:Bs}:(CR 9 x).flatten.length=9*x.length:=by rw[List.length_flatten,Lg];simp;exact akM
theorem ry(hf:∀k y x,f k y x<2^p)(hp:p<=16)(k y x:Nat):f k y x<256^ah p:=by
 have hb:2^p<=256^ah p:=by
  unfold ah
  split
  ·exact Gg (n:=2) (by decide) ‹p<=8›
  ·exact Gg (n:=2) (by decide) hp
 exact Nat.lt_of_lt_of_le (hf k y x) hb
theorem aqy(hb:Bk b H)(bl:b<lo)(hp:tR lo H ug (br d) p (bJ f w h d))(hw:H[wr]?=some (.list (ws.map aY)))(bw:b≠wr)(g:Good ws w h d p)(D:uJ w h d p)(hf:∀k y x,f k y x<2^p)
  (hx:(nm,vs)∈lc) (hv:v∈vs) (k:∀a7 H',Fr b H.length H H'->Bk b H'->W (CK (af (n+5)) ss [.ref b,.ref wr,ug,a3,.bytes nm,a5,.bytes v,a7,.undef,.undef,.undef,.undef,.undef,.undef,.undef] H') Q E):
  W (CK (af (n+5)) (.cons (.assign (.var 7) (.idx (.call 24 (.cons (.var 0) (.cons (.comp (.tup (.cons (.var 13) (.cons (.vd (.cmp (.var 13) .eq (.var 4)) (.var 6) (.var 14)) .nil))) [13,14] false (.var 1) .nil .nil) .nil))) (.tm 0))) (.cons (.ifs (.cmp (.call 26 (.cons (.bin .add (.var 7) (.bin .mul (.call 25 (.cons (.var 2) .nil)) (.tm 9))) .nil)) .ne (.tO "range")) (.cons (.ret (.un false)) .nil) .nil) ss)) [.ref b,.ref wr,ug,a3,.bytes nm,a5,.bytes v,.undef,.undef,.undef,.undef,.undef,.undef,.undef,.undef] H) Q E:=by
 have bh:=hb.lt;have Ae:=C1.mp (C1.mp aeQ _ hx) v hv;rw[Bool.and_eq_true,Bool.and_eq_true,C9] at Ae;have gl:=g.len;have xL:ev (af (n+5)) (.comp (.tup (.cons (.var 13) (.cons (.vd (.cmp (.var 13) .eq (.var 4)) (.var 6) (.var 14)) .nil))) [13,14] false (.var 1) .nil .nil) 4 [.ref b,.ref wr,ug,a3,.bytes nm,a5,.bytes v,.undef,.undef,.undef,.undef,.undef,.undef,.undef,.undef] H=.ok (.ref H.length) (H++[.list ((ws.map aY).map (aa4 nm v))]):=by refine mN rfl (Xv rfl rfl) (λj=>cM hw) (by rw[fe hw];exact Nat.le_refl _) (λx hx=>?_) (by rw[List.length_map];unfold al;exact akN gl);(obtain⟨zq0,_,zq2⟩:=Dz.mp hx;obtain⟨s,u⟩:=zq0;clear hx;subst zq2);exact(ae _ rfl (cq (ad (Xv rfl rfl) (Xo (aiz rfl rfl rfl rfl)))))
 rw[Gd,show(aa4 nm v∘aY)=λx=>aY (gE nm v x) from rfl,<-Function.comp_def,<-Gd] at xL;have Cb:(ws.map (gE nm v)).length<=5:=by rw[List.length_map];exact gl
 have Ce:∀x∈ws.map (gE nm v),(x.1==aQ)=false:=λx hx=>by(obtain⟨y,hy,zq2⟩:=Dz.mp hx;clear hx;subst zq2);exact rG g y hy
 have hlen:∀x∈ws.map (gE nm v),x.1.length<=20/\x.2.length<=20:=λx hx=>by
  (obtain⟨y,hy,zq2⟩:=Dz.mp hx;clear hx;subst zq2);have y1:=g.ze y hy;have y2:=qV y1.1;refine⟨by show y.1.length<=20;exact(Nat.le_trans y2 (by decide)),?_⟩;show(if y.1==nm then v else y.2).length<=20
  split<;>omega
 obtain⟨T,c,sp,H1,e1,o1⟩:=rc (n:=n+2) (hb.app (l:= [.list ((ws.map (gE nm v)).map aY)])) aC (CV bh) Ce hlen (Nat.le_trans Cb (by decide));have f1:Fr b H.length H H1:=(Fr.app (Nat.le_refl _)).trans (o1.fr.less (by rw[List.length_append];exact Nat.le_add_right _ _));have yY:=hp.fr f1 bl;have es:=sv (n:=n+4) yY D.dd.le.1 (by have:=D.ww;exact gT this) (by have:=D.hh;exact gT this) (by have:=D.dd.le;exact Nat.le_trans this.2 (by decide)) (λk y x Z Z Z=>ry hf D.pp.2 k y x);have l1:=sB o1 Cb;have l2:=lT (f:=f) D;have l3:=jo (p:=p) (fl:=au f w h d);have l4:0<(aE (ah p) (au f w h d)).length:=by rw[jp];exact Hq (ab2 D) (by unfold ah;split<;>decide)
 have l5:=aoo (x:=aE (ah p) (au f w h d));have l6:(aq++ak T []++[c]).length=2+ba T+1:=by rw[List.length_append,List.length_append,im];rfl
 have ho:(aq++ak T (c::(CR 9 (aE (ah p) (au f w h d))).flatten)).length<100000:=by rw[iU];exact l5▸Nat.lt_of_le_of_lt (Dd (En (C4 l1 2) 1) (Ea 9 (Nat.le_trans l3 (Eh 2 l2)))) (by decide)
 obtain⟨H2,e2,f2⟩:=aqT (n:=n) (H:=H1) g D hx hv (sT o1 (agl g Ae.1.1) Cb) o1.stop ho
 have Cv:run (n+5) 26 [.bytes (aq++ak T []++[c]++(CR 9 (aE (ah p) (au f w h d))).flatten)] H1=.ok (.str "range") H2:=by rw[qB];exact kI e2 (by decide)
 (revert hp;refine r_ea λq zq1 Z=>?_;clear yY;subst zq1);have Ai:=o1.bk.lt;refine aG (aD (aR (aK (ad (Xv rfl rfl) (Xo xL)) e1) Xi aca)) (fQ (aw (aK (Xo (am (Xv rfl rfl) (am (aK (Xo (Xv rfl rfl)) es) Xi (ajE l4 (Nat.lt_of_le_of_lt (Nat.le_trans l3 (Eh 2 l2)) (by decide)))) (eB (Nat.lt_of_le_of_lt (Dd (Nat.le_trans (C5 l6) (En (C4 l1 2) 1)) (Nat.le_trans (C5 l5) (Ea 9 (Nat.le_trans l3 (Eh 2 l2))))) (by decide))))) Cv) Xs na) (k _ H2 (f1.trans ((f2.less f1.le).any f1.le)) (o1.bk.fr f2 Ai (CV Ai))))
end
section
variable {wr:Nat}
theorem aoe(h:k<=1000):dc .pow (.int 256) (.int k) H=.ok (.int (256^k)) H:=by show av R.bad (0<=(k:Int)/\(k:Int)<=1000/\(256:Int).natAbs<cI) _=_;unfold av;rw[CM ⟨by exact rR h,by exact(FJ rfl rfl h),by decide⟩,DW]
theorem aju:bj H .isin (.int p) (.tup [.int 8,.int 16])=some ((8==(p:Int))||((16==(p:Int))||false)):=rfl
theorem ahu(hs:0<s)(h2:s<1000):dc .fdiv (.int ((N*s:Nat))) (.int s) H=.ok (.int N) H:=by rw[pf ⟨by exact(GY.mpr hs),by exact akO hs h2⟩,GW _ (akP hs h2),<-KG,Nat.mul_div_cancel _ hs]
theorem ap5:0<ah p/\ah p<=2:=by unfold ah;split<;>decide
theorem aeb{x:Bs}(h:u<1000000000):dB H (.bytes x) [] [.int u] []=.ok (.bytes (x.take u)) H:=by have g:∀u:Int,cg u->dB H (.bytes x) [] [.int u] []=.ok (.bytes (x.take u.toNat)) H:=λu q=>CM q;exact g u (iL h)
theorem apw{x:Bs}(h:u<1000000000):dB H (.bytes x) [.int u] [] []=.ok (.bytes (x.drop u)) H:=by have g:∀u:Int,cg u->dB H (.bytes x) [.int u] [] []=.ok (.bytes (x.drop u.toNat)) H:=λu q=>CM q;exact g u (iL h)
theorem afI(hp:p<=16)(h8:p≠8)(Aq:p≠16):2^p<256^ah p/\2^p<=256^ah p-1:=by
 have:2^p<256^ah p:=by
  unfold ah
  split
  ·exact LY (a:=2) (by decide) (show p<8 by exact Ep (by assumption) h8)
  ·exact LY (a:=2) (by decide) (show p<16 by exact Ep hp Aq)
 exact⟨this,LK this⟩
theorem aqz{a6:AV}(hb:Bk b H)(bl:b<lo)(hp:tR lo H ug (br d) p (bJ f w h d))(hw:H[wr]?=some (.list (ws.map aY)))(bw:b≠wr)(g:Good ws w h d p)(D:uJ w h d p)(hf:∀k y x,f k y x<2^p)
  (h8:p≠8) (Aq:p≠16):
  W (CK (af (n+5)) (fY 6 lz) [.ref b,.ref wr,ug,a3,a4,a5,a6,a7,.undef,.undef,.undef,.undef,.undef,.undef,.undef] H) (λfl H'=>fl=.ret (.bool true)/\Fr b H.length H H'/\Bk b H') bC:=by
 have bh:=hb.lt;have gl:=g.len;have sz:=ap5 (p:=p);have hp0:=hp;obtain⟨q,rfl,_⟩:=hp;have es:=sv (n:=n+4) hp0 D.dd.le.1 (by have:=D.ww;exact gT this) (by have:=D.hh;exact gT this) (by have:=D.dd.le;exact Nat.le_trans this.2 (by decide)) (λk y x Z Z Z=>ry hf D.pp.2 k y x);have fl0:=ab2 (f:=f) D;have yj:=lT (f:=f) D;have el:=jp (p:=p) (fl:=au f w h d);have ll:cT H .len [.bytes (aE (ah p) (au f w h d))]=.ok (.int (((au f w h d).length*ah p:Nat))) H:=by rw[<-el];exact EO
 obtain⟨j,H1,hj,e1,f1,b1⟩:=dq (n:=n+4) hb (top:=(au f w h d).length) fl0 (akQ fl0 yj);have bl1:=b1.lt;obtain⟨Cr,zn⟩:=afI D.pp.2 h8 Aq;have c2:((2^p:Nat):Int)=(2:Int)^p:=FF 2 p;have ar9:((256^ah p:Nat):Int)=(256:Int)^ah p:=FF 256 _;have cm:(256:Int)^ah p-1=((256^ah p-1:Nat):Int):=by have p0:0<256^ah p:=Hr (by decide);rw[<-ar9];exact(GA p0).symm
 obtain⟨k,H2,hk,e2,f2,b2⟩:=dq (n:=n+4) (b1.app (l:= [.list (aA [2^p,256^ah p-1])])) (top:=2) (by decide) (by decide);have l2:H2[H1.length]?=some (.list (aA [2^p,256^ah p-1])):=f2.get (Du (CV bl1)) aC;obtain⟨y,yk,y1,y2⟩:∃y,(aA [2^p,256^ah p-1])[k]?=some (.int (y:Nat))/\2^p<=y/\y<256^ah p:=by
  clear e2;rcases k with _ |_ |k
  ·exact(aI _ rfl (Nat.le_refl _) Cr)
  ·exact(aI _ rfl zn (akR ar9 cm))
  ·exact(ade hk).elim
 have eL:ev (af (n+5)) (.list (.cons (.bin .pow (.tm 2) (.attr (.var 2) 4)) (.cons (.var 11) .nil))) 4 [.ref b,.ref wr,.inst 1 [.str (br d),.int p,.ref q],a3,a4,a5,a6,a7,.bytes (aE (ah p) (au f w h d)),.int (ah p),.int ((ah p*j:Nat)),.int ((256^ah p-1:Nat)),.undef,.undef,.undef] H1=.ok (.ref H1.length) (H1++[.list (aA [2^p,256^ah p-1])]):=by have e:=bB (Γ:=af (n+5)) (m:=4) (ρ:= [.ref b,.ref wr,.inst 1 [.str (br d),.int p,.ref q],a3,a4,a5,a6,a7,.bytes (aE (ah p) (au f w h d)),.int (ah p),.int ((ah p*j:Nat)),.int ((256^ah p-1:Nat)),.undef,.undef,.undef]) (H:=H1) (H1:=H1) (es:=.cons (.bin .pow (.tm 2) (.attr (.var 2) 4)) (.cons (.var 11) .nil)) (ad (am Xi (ay (Xv rfl rfl) rfl) (jG (p:=p) (by have:=D.pp;exact Nat.le_trans this.2 (by decide)))) (Xo (Xv rfl rfl))) (show 2<=al by decide);rw[<-c2] at e;exact e
 have yi:Fr b H.length H H2:=(f1.trans (.app f1.le)).trans (f2.less (by rw[List.length_append];exact Nat.le_trans f1.le (Nat.le_add_right _ _)));have Ce:=rG g;have hlen:∀x∈ws,x.1.length<=20/\x.2.length<=20:=λx hx=>by have y1:=g.ze x hx;have y2:=qV y1.1;exact⟨Nat.le_trans y2 (by decide),Nat.le_trans y1.2.2 (by decide)⟩
 obtain⟨T,c,sp,H3,e3,o3⟩:=rc (n:=n+2) b2 (yi.get bw.symm hw) bw Ce hlen (Nat.le_trans gl (by decide));have tl:=sB o3 gl;have bl3:=o3.bk.lt;have et:=aha (p:=p) (fl:=au f w h d) (j:=j);have ed:=ag9 (p:=p) (fl:=au f w h d) (j:=j+1);have lf:((au f w h d).take j++y::(au f w h d).drop (j+1)).length=h*w*d:=by rw[List.length_append,Di,Dn,Dj,<-fZ (f:=f) (w:=w) (h:=h) (d:=d)];exact akS hj
 have ec:aE (ah p) ((au f w h d).take j)++fp (ah p) y++aE (ah p) ((au f w h d).drop (j+1))=aE (ah p) ((au f w h d).take j++y::(au f w h d).drop (j+1)):=by rw[abI,jn,List.append_assoc]
 have hx:∀x∈(au f w h d).take j++y::(au f w h d).drop (j+1),x<256^ah p:=λx hx=>by
  rcases DP.mp hx with hx |hx
  ·exact CT (kb hf x (Ik hx)) Cr
  ·cases hx with
   |head=>exact y2
   |tail _ hx=>exact CT (kb hf x (List.mem_of_mem_drop hx)) Cr
 have le:=jo (p:=p) (fl:=(au f w h d).take j++y::(au f w h d).drop (j+1));have lf2:((au f w h d).take j++y::(au f w h d).drop (j+1)).length<=36:=by rw[lf,<-fZ (f:=f)];exact yj
 have ho:(aq++ak T (c::aE (ah p) ((au f w h d).take j++y::(au f w h d).drop (j+1)))).length<100000:=by rw[iU];exact Nat.lt_of_le_of_lt (Dd (En (C4 tl 2) 1) (Nat.le_trans le (Eh 2 lf2))) (by decide)
 obtain⟨H4,e4,f4⟩:=ajm (n:=n) (H:=H3) (sT o3 g.names gl) (g.right D) o3.stop ho lf hx (Jo _ (Dy ..)) y1
 have Cv:run (n+5) 26 [.bytes (aq++ak T []++[c]++aE (ah p) ((au f w h d).take j)++fp (ah p) y++aE (ah p) ((au f w h d).drop (j+1)))] H3=.ok (.str "range") H4:=by rw[List.append_assoc _ (aE (ah p) ((au f w h d).take j)),List.append_assoc _ (aE (ah p) ((au f w h d).take j)++fp (ah p) y),ec,qB];exact kI e4 (by decide)
 have l6:(aq++ak T []++[c]).length=2+ba T+1:=by rw[List.length_append,List.length_append,im];rfl
 have t1:=jo (p:=p) (fl:=(au f w h d).take j);have t2:=jo (p:=p) (fl:=(au f w h d).drop (j+1));have t3:=abH (p:=p) (x:=y);rw[Dn] at t1;rw[Dj] at t2;have sj:ah p*j<=2*36:=Ez sz.2 (Nat.le_trans (CU hj) yj);have s1:=aeb (H:=H3) (x:=aE (ah p) (au f w h d)) (u:=ah p*j) (Nat.lt_of_le_of_lt sj (by decide));have s2:=apw (H:=H3) (x:=aE (ah p) (au f w h d)) (u:=ah p*(j+1)) (by rw[Iu];exact Nat.lt_of_le_of_lt (Dd sj sz.2) (by decide));rw[et] at s1;rw[ed,Iu,F8] at s2;show W (CK (af (n+5)) (.cons _ (.cons _ (.cons _ (.cons _ (.cons _ (.cons _ .nil)))))) _ H) _ _;refine aG (aD (aK (Xo (Xv rfl rfl)) es)) (aG (aD (ad7 (m:=br d) (q:=q) rfl)) (aG (aD (am (Xv rfl rfl) (aK (ad (Xv rfl rfl) (Xo (am (aM rfl (Xo (Xv rfl rfl)) ll) (Xv rfl rfl) (ahu sz.1 (akT sz))))) e1) (fH (.inl (by rw[FZ];unfold cI;exact akU sz))))) ?_));refine aG (aD (am (am Xi (Xv rfl rfl) (aoe (k:=ah p) (akV sz))) Xi rfl)) ?_;rw[<-Gz,cm];refine aG (aD (cS rfl (aR eL (aK (ad (Xv rfl rfl) (Xo Xi)) e2) (ci l2 yk)) rfl (ad (Xv rfl rfl) (Xo Xs)) (arn (p:=p) y2))) ?_;have Cz:=Nat.le_trans t1 (Eh 2 (Nat.le_trans (D9 ..) yj));have t2':=Nat.le_trans t2 (Eh 2 (Nat.le_trans (DQ ..) yj));have Cp:=Nat.le_trans (C5 l6) (En (C4 tl 2) 1);refine dG (aw (aK (Xo (am (am (am (aR (aK (ad (Xv rfl rfl) (Xo (Xv rfl rfl))) e3) Xi aca) (fT (Xv rfl rfl) aj (Xo (Xv rfl rfl)) aj s1) (eB (Nat.lt_of_le_of_lt (Dd Cp Cz) (by decide)))) (Xv rfl rfl) (eB (by rw[List.length_append];exact Nat.lt_of_le_of_lt (Dd (Dd Cp Cz) t3) (by decide)))) (fT (Xv rfl rfl) (Xo (am (Xv rfl rfl) (Xv rfl rfl) rfl)) aj aj s2) (eB (by rw[List.length_append,List.length_append];exact Nat.lt_of_le_of_lt (Dd (Dd (Dd Cp Cz) t3) t2') (by decide))))) Cv) Xs (r:=true) ?_) ⟨rfl,?_,?_⟩
 ·exact CN some (DA _)
 ·exact(yi.trans (o3.fr.less yi.le)).trans ((f4.less (Nat.le_trans yi.le o3.fr.le)).any (Nat.le_trans yi.le o3.fr.le))
 ·exact o3.bk.fr f4 bl3 (CV bl3)
end
section
variable {wr:Nat}
theorem aqA(hb:Bk b H)(bl:b<lo)(hp:tR lo H ug (br d) p (bJ f w h d))(hw:H[wr]?=some (.list (ws.map aY)))(bw:b≠wr)(g:Good ws w h d p)(D:uJ w h d p)(hf:∀k y x,f k y x<2^p):
  ∃H',run (n+6) 28 [.ref b,.ref wr,ug] H=.ok (.bool true) H'/\Fr b H.length H H'/\Bk b H':=by
 refine o_eeeeee (an5 (n:=n+4) (a1:=.ref wr) (a2:=ug) hb) λa3 nm vs v r H1=>r_aaaa λe1 hx hv f1 b1=>?_;have yY:=hp.fr f1 bl;have hw1:=f1.get bw.symm hw;have w0:=dH (n:=n+5) (k:=28) (np:=3) (nv:=15) (bd:=lz) (vs:= [.ref b,.ref wr,ug]) (H:=H) (Q:=λv H'=>v=.bool true/\Fr b H.length H H'/\Bk b H') (E:=bC) rfl rfl (by
  refine W.eq (qR 3 e1 rfl) ?_;show W (CK (af (n+5)) (.cons _ (.cons _ (.cons _ (fY 6 lz)))) _ H1) _ _;refine aqy b1 bl yY hw1 bw g D hf hx hv λa7 H2 f2 b2=>?_;have Az:=yY.fr f2 bl;have AA:=f2.get bw.symm hw1;have yi:=f1.trans (f2.less f1.le);have hq:=Az;(revert hq;refine r_ea λq zq1 Z=>?_;clear hp e1 yY;subst zq1);refine fk (aw (ay (Xv rfl rfl) rfl) (cq (ad Xi (Xo Xi))) aju) (λe=>dG Xb ⟨rfl,yi,b2⟩) λe=>bA ?_;rw[Gv,EZ,EL,EL] at e;refine(aqz b2 bl Az AA bw g D hf (akW e) (akX e)).mono (λfl H3 q3=>?_) λZ Z x=>x;obtain⟨rfl,f3,b3⟩:=q3;exact⟨rfl,yi.trans (f3.less yi.le),b3⟩)
 obtain⟨v,H',e,rfl,x⟩:=w0.ok;exact(ae H' e x)
noncomputable def qC:PE:=.comp (.bi .list (.cons (.var 3) .nil)) [3] true (.attr (.var 2) 2) .nil .nil
theorem agD{a0:AV}(g:tG lo H v D)(hr:D.rows.length<1000):W (ev (af n) qC 3 [a0,a1,v,a3,a4] H) (λu H'=>∃hk,u=.ref hk/\tJ H.length H' hk D.rows/\∃l,H'=H++l) bC:=by
 (revert g;refine r_ea λr zq1 zq2=>?_;subst zq1;obtain⟨_,ps,g1,g2,g3⟩:=zq2);unfold qC;refine iA rfl (ay (Xv rfl rfl) rfl) (λj acc Hc=>acc.length=j/\(∀(y:Nat)(xs:List Int),y<j->D.rows[y]?=some xs->∃pp:Nat,acc[y]?=some (AV.ref pp)/\H.length<=pp/\Hc[pp]?=some (row xs))/\∃l,Hc=H++l) D.rows.length ?_ (iP rfl (λy xs h=>CP h (Eb _)) [] ((Ds _).symm)) (λj acc Hc hj i=>?_) (λacc Hc i=>?_) λacc Hc i=>?_
 ·rw[fe g1,g2];exact Nat.le_refl _
 ·obtain⟨hl,ha,l,rfl⟩:=i;obtain⟨xs,hx⟩:∃xs,D.rows[j]?=some xs:=⟨_,List.getElem?_eq_getElem hj⟩;obtain⟨rp,q1,_,q2⟩:=g3 j xs hx;refine(ax (.ref rp) _ ((cM (aH g1)).trans (CN some q1)) rfl (.of (aM rfl (Xo (Xv rfl rfl)) (acu (aH q2))) (iP (by rw[List.length_append,hl];rfl) (λy ys hy AC=>?_) (l++[row xs]) (by rw[List.append_assoc];rfl))))
  by_cases c:y=j
  ·clear hj ha q1 hy;subst c;obtain rfl:=C6 (hx.symm.trans AC);exact(aI _ (by rw[<-hl];exact Ga) (by rw[List.length_append];exact Nat.le_add_right _ _) aC)
  ·obtain⟨pp,e1,e2,e3⟩:=ha y ys (Ep (Eo hy) c) AC;exact(aI pp ((Ee (hl▸Ep (Eo hy) c)).trans e1) e2 (aH e3))
 ·(revert i;refine r_aae λhl ha l zq3=>?_;clear ha;subst zq3);rw[cM (aH g1),Dw (C5 g2)]
 ·obtain⟨hl,ha,l,rfl⟩:=i;refine(ail (by unfold al;exact rS hr g2 hl) _ rfl ⟨by rw[List.length_append];exact Nat.le_add_right _ _,acc,aC,hl,λy xs hy=>?_⟩ (l++[.list acc]) (by rw[List.append_assoc]));obtain⟨pp,e1,e2,e3⟩:=ha y xs (List.getElem?_eq_some_iff.mp hy).1 hy;exact(aI pp e1 e2 (aH e3))
theorem aib(g:tL lo H q P)(hP:P.length<1000)(hr:∀D∈P,D.rows.length<1000):
  W (ev (af n) (.comp qC [2] true (.attr (.var 0) 5) .nil .nil) 4 [.inst 1 [.str m,.int p,.ref q],a1,a2,a3,a4] H) (λu H'=>∃hq hs,u=.ref hq/\H'[hq]?=some (.list hs)/\hs.length=P.length/\(∀(k:Nat)(D:PD),P[k]?=some D->∃hk:Nat,hs[k]?=some (AV.ref hk)/\tJ H.length H' hk D.rows)/\H.length<=hq/\∃l,H'=H++l) bC:=by
 have g0:=g;obtain⟨_,pl,g1,g2,g3⟩:=g;refine iA rfl (ay (Xv rfl rfl) rfl) (λj acc Hc=>acc.length=j/\(∀(k:Nat)(D:PD),k<j->P[k]?=some D->∃hk:Nat,acc[k]?=some (AV.ref hk)/\tJ H.length Hc hk D.rows)/\∃l,Hc=H++l) P.length ?_ (iP rfl (λy xs h=>CP h (Eb _)) [] ((Ds _).symm)) (λj acc Hc hj i=>?_) (λacc Hc i=>?_) λacc Hc i=>?_
 ·rw[fe g1,g2];exact Nat.le_refl _
 ·obtain⟨hl,ha,l,rfl⟩:=i;obtain⟨D,hD⟩:∃D,P[j]?=some D:=⟨_,List.getElem?_eq_getElem hj⟩;obtain⟨v,q1,q2⟩:=g3 j D hD;refine(ax v _ ((cM (aH g1)).trans (CN some q1)) rfl ((agD (q2.app (l:=l)) (hr D (DZ hD))).mono (λu H' x=>?_) λZ Z x=>x));(revert x;refine r_eaae λhk zq1 ra l' zq4=>?_;subst zq1;subst zq4);refine(iP (by rw[List.length_append,hl];rfl) (λk E wY hE=>?_) (l++l') (by rw[List.append_assoc]))
  by_cases c:k=j
  ·clear hj ha q1 wY;subst c;obtain rfl:=C6 (hD.symm.trans hE);exact(ae hk (by rw[<-hl];exact Ga) (ra.vi (by rw[List.length_append];exact Nat.le_add_right _ _)))
  ·obtain⟨zI,e1,e2⟩:=ha k E (Ep (Eo wY) c) hE;exact(ae zI ((Ee (hl▸Ep (Eo wY) c)).trans e1) e2.app)
 ·(revert i;refine r_aae λhl ha l zq3=>?_;clear ha;subst zq3);rw[cM (aH g1),Dw (C5 g2)]
 ·obtain⟨hl,ha,l,rfl⟩:=i;refine(eH (by unfold al;exact rS hP g2 hl) _ acc rfl aC hl (iP (λk D hD=>?_) (by rw[List.length_append];exact Nat.le_add_right _ _) (l++[.list acc]) (by rw[List.append_assoc])));obtain⟨hk,e1,e2⟩:=ha k D (List.getElem?_eq_some_iff.mp hD).1 hD;exact(ae hk e1 e2.app)
def sq(v:AV):AV:=(lv v 2).getD .none
theorem aom(g:tR lo H ug m p P)(yW:0<lo)(hP:P.length<1000)(hr:∀D∈P,D.rows.length<1000)(hw:∀H1,tR lo H1 ug m p P->∃H2,run n 18 [ug] H1=.exc 2 H2/\Fr H1.length H1.length H1 H2):
  ∃H',run (n+1) 29 [ug] H=.ok (.bool true) H'/\Fr H.length H.length H H':=by
 have g0:=g;obtain⟨q,rfl,gq⟩:=g;have xW:0<H.length:=Nat.lt_of_le_of_lt (Ec _) (cD gq.ex.choose_spec.1);(refine o_eeaeea ((aib (n:=n) (m:=m) (p:=p) (a1:=.undef) (a2:=.undef) (a3:=.undef) (a4:=.undef) gq hP hr).ok) λu H1 e1 hq hs zq5=>r_aaaae λk1 k2 k3 k4 l zq11=>?_;subst zq5;subst zq11);obtain⟨H2,e2,f2⟩:=hw _ (g0.app (l:=l));have fz:=f2.any (b:=0) (Nat.le_refl _);have g2:=gq.app (l:=l) |>.fr fz yW;have Bc:H2[hq]?=some (.list hs):=fz.get (C2 (Nat.lt_of_lt_of_le xW k4)) k1;obtain⟨_,pl,j1,j2,j3⟩:=g2;have e3:ev {af n with C:=λZ Z Z=>.bad,hd:=true} (.comp (.attr (.var 4) 2) [4] true (.attr (.var 0) 5) .nil .nil) 4 [.inst 1 [.str m,.int p,.ref q],.ref hq,.undef,.undef,.undef] H2=.ok (.ref H2.length) (H2++[.list (pl.map sq)]):=by refine mN rfl (ay (Xv rfl rfl) rfl) (λj=>cM j1) (by rw[fe j1];exact Nat.le_refl _) (λv hv=>?_) (by unfold al;exact rS hP k2 j2);obtain⟨k,hk⟩:=Jk hv;obtain⟨D,hD⟩:∃D,P[k]?=some D:=⟨_,List.getElem?_eq_getElem (by rw[<-j2];exact(List.getElem?_eq_some_iff.mp hk).1)⟩;obtain⟨v',i1,i2⟩:=j3 k D hD;have ev:=C6 (hk.symm.trans i1);obtain⟨r,er,_⟩:=i2;clear hv hk;obtain rfl:=ev.trans er;exact(ae _ rfl (ay (Xv rfl rfl) rfl))
 have e4:de (H2++[.list (pl.map sq)]) 4 (.ref H2.length) (.ref hq)=some true:=by
  refine qO aC (aH Bc) (by rw[List.length_map,j2,k2]) λi x y hx hy=>?_;have hi:i<P.length:=by rw[<-k2];exact(List.getElem?_eq_some_iff.mp hy).1
  obtain⟨v,i1,r,rfl,i2⟩:=j3 i _ (List.getElem?_eq_getElem hi);rw[De,i1] at hx;obtain rfl:=C6 hx;obtain⟨hk,i3,i4⟩:=k3 i _ (List.getElem?_eq_getElem hi);obtain rfl:=C6 (hy.symm.trans i3);exact abP (n:=0) i2.app (i4.fr fz xW).app
 refine(ae (H2++[.list (pl.map sq)]) (dQ (np:=1) (nv:=5) (bd:=qe) rfl rfl ?_) ?_)
 ·show CK (af n) qe [.inst 1 [.str m,.int p,.ref q],.undef,.undef,.undef,.undef] H=_;exact Sc (aD e1) (Sr (aaj rfl (aK (Xo (Xv rfl rfl)) e2) ((mI (by decide)).trans (Sr (cR (aw e3 (Xv rfl rfl) (abg e4)))))))
 ·have fa:Fr H.length H.length H (H++l):=.app (Nat.le_refl _);exact(fa.trans ((f2.less fa.le).any fa.le)).trans (.app (Nat.le_trans fa.le f2.le))
end
section
def fM(m:Str)(p:Nat)(P:List PD):Prop:=¬wb m p P\/(xl P.length/\br P.length≠m)
theorem aqO(g:tR lo H ug m p P)(hb:fM m p P):∃H',run (n+4) 18 [ug] H=.exc 2 H'/\Fr H.length H.length H H':=by
 have pc:=adJ (n:=n) g;(revert g;refine r_ea λq zq1 zq2=>?_;subst zq1;obtain⟨_,pl,g1,g2,g3⟩:=zq2)
 cases pc with
 |xG e x=>(revert x;refine r_aa λzq0 zq1 Z=>?_;subst zq0;obtain⟨l,rfl⟩:=zq1);exact(ae _ (gv (np:=1) (nv:=6) (bd:=iG) rfl rfl (Se (by rw[E5.expr];exact X2 (aK (Xo (Xv rfl rfl)) e)))) (.app (Nat.le_refl _)))
 |of e x=>
  (revert x;refine r_aa λzq0 zq1 gp=>?_;subst zq0;obtain⟨l,rfl⟩:=zq1);rcases hb with hb |⟨hd,hm⟩
  ·exact CP gp hb
  ·obtain⟨D0,At⟩:∃D0,P[0]?=some D0:=⟨_,List.getElem?_eq_getElem (Ii.mpr gp.ne)⟩;obtain⟨x0,i1,r0,rfl,i2⟩:=g3 0 D0 At;have h1:(H++l)[q]?=some (.list pl):=aH g1;have ll:=gf h1;rw[g2] at ll;have e2:bj (H++l) .ne (.str (br P.length)) (.str m)=some true:=by
    rw[abh,EM hm];rfl
   exact(ae _ (gv (np:=1) (nv:=6) (bd:=iG) rfl rfl (Sc (eV (aK (Xo (Xv rfl rfl)) e) rfl) (Sc (dF rfl (cq (ad (aR (ay (Xv rfl rfl) rfl) Xi (ci (d:=0) h1 i1)) (Xo (aM rfl (Xo (ay (Xv rfl rfl) rfl)) ll)))) rfl) (Se (d8 (aw (cS rfl Xg rfl (Xo (Xv rfl rfl)) (acI hd)) (ay (Xv rfl rfl) rfl) e2) (Se (fO rfl))))))) (.app (Nat.le_refl _)))
noncomputable def dS(z:Int)(w h:Nat):PD:=⟨w,h,CR h (CR w z)⟩
theorem acL(h0:0<w)(h1:w<1000):dc .mul (.ref H.length) (.int w) (H++[.list [.int z]])=.ok (.ref (H++[AO.list [.int z]]).length) (H++[.list [.int z]]++[row (CR w z)]):=by
 have e:(CR (w:Int).toNat [AV.int z]).flatten=(CR w z).map AV.int:=by rw[DW,Lg,List.flatten_replicate_singleton]
 show aJ R.bad (az (H++[.list [.int z]]) H.length) (λxs=>av R.bad (0<(w:Int)/\(w:Int)<1000/\xs.length<1000) (cn (CR (w:Int).toNat xs).flatten (H++[.list [.int z]])))=_;rw[bq aC];show av R.bad (0<(w:Int)/\(w:Int)<1000/\1<1000) (cn (CR (w:Int).toNat [AV.int z]).flatten (H++[.list [.int z]]))=_;unfold av;rw[CM ⟨by exact(GY.mpr h0),by exact(IX.mp h1),by decide⟩,e];unfold cn;rw[CM (by rw[List.length_map,Ef];unfold al;exact akY h0 h1)];rfl
theorem abt{t:Nat}(hi:ev (af n) it 4 ρ H=.ok (.uV 0 h 1) H)(h0:0<w)(h1:w<1000)(h2:h<1000)
  (he:∀(j:Nat)(Hc:AH),ev (af n) elt 3 (ρ.set t (.int j)) Hc=.ok (.ref (Hc.length+1)) (Hc++[.list [.int z]]++[row (CR w z)])):
  ∃r l,ev (af n) (.comp elt [t] true it .nil .nil) 4 ρ H=.ok (.ref r) (H++l)/\tJ H.length (H++l) r (CR h (CR w z)):=by
 have w0:W (ev (af n) (.comp elt [t] true it .nil .nil) 4 ρ H) (λv H'=>∃r l,v=.ref r/\H'=H++l/\tJ H.length (H++l) r (CR h (CR w z))) bC:=by
  refine iA rfl hi (λj acc Hc=>acc.length=j/\(∀y:Nat,y<j->∃pp:Nat,acc[y]?=some (AV.ref pp)/\H.length<=pp/\Hc[pp]?=some (row (CR w z)))/\∃l,Hc=H++l) h ?_ (iP rfl (λy h=>CP h (Eb _)) [] ((Ds _).symm)) (λj acc Hc hj i=>?_) (λacc Hc i=>by rw[cr,CQ (CY _)]) λacc Hc i=>?_
  ·show h<=((h:Int)-0).toNat;exact akZ h2
  ·obtain⟨hl,ha,l,rfl⟩:=i;refine(ax (.int j) _ (by rw[cr,CM hj]) rfl (.of (he j _) (iP (by rw[List.length_append,hl];rfl) (λy hy=>?_) (l++[.list [.int z]]++[row (CR w z)]) (by simp only[List.append_assoc]))))
   by_cases c:y=j
   ·clear hj ha hy;subst c;refine(aI ((H++l).length+1) (by rw[<-hl];exact Ga) (by rw[List.length_append];exact ak0) ?_);have:=aC (H:=H++l++[AO.list [.int z]]) (o:=row (CR w z));rw[List.length_append (as:=H++l)] at this;exact this
   ·obtain⟨pp,e1,e2,e3⟩:=ha y (Ep (Eo hy) c);exact(aI pp ((Ee (hl▸Ep (Eo hy) c)).trans e1) e2 (aH (aH e3)))
  ·obtain⟨hl,ha,l,rfl⟩:=i;refine(jw (by unfold al;exact adf h2 hl) _ (l++[.list acc]) rfl (by rw[List.append_assoc]) ?_);rw[<-List.append_assoc];refine⟨by rw[List.length_append];exact Nat.le_add_right _ _,acc,aC,by rw[hl,Ef],λy xs hy=>?_⟩;have hy2:y<h:=by have:=(List.getElem?_eq_some_iff.mp hy).1;rwa [Ef] at this
   rw[Ih,CM hy2] at hy;obtain rfl:=C6 hy;obtain⟨pp,e1,e2,e3⟩:=ha y hy2;exact(aI pp e1 e2 (aH e3))
 (refine o_eeaeea w0.ok λv H' e r l zq5=>r_a λzq6 x=>?_;subst zq5;subst zq6);exact(bR r l e x)
theorem mq(h0:0<w)(h1:w<1000)(h2:h<1000):∃v l,run (n+1) 41 [.int w,.int h] H=.ok v (H++l)/\tG H.length (H++l) v (dS 1 w h):=by
 refine o_eea (abt (n:=n) (H:=H) (z:=1) (t:=2) (ρ:= [.int w,.int h,.undef]) (it:=.bi .range (.cons (.var 1) .nil)) (elt:=.bin .mul (.list (.cons (.tm 1) .nil)) (.var 0)) (h:=h) (w:=w) (aM rfl (Xo (Xv rfl rfl)) (eO (ak1 h2))) h0 h1 h2 (λj Hc=>by have e:=acL (H:=Hc) (z:=1) h0 h1;rw[List.length_append (as:=Hc)] at e;exact am (bB (Xo Xi) (show 1<=al by decide)) (Xv rfl rfl) e)) λr l e x=>?_
 exact(aiq _ l (dQ (np:=2) (nv:=3) (bd:=ig) rfl rfl (Sr (cR (jf rfl (ad (Xv rfl rfl) (ad (Xv rfl rfl) (Xo e))) rfl)))) r rfl x)
end
structure yF(lo:Nat)(H:AH)(v:AV):Prop where
 ex:∃(m:Str)(p:Nat)(P:List PD),tR lo H v m p P/\fM m p P/\P.length<1000/\∀D∈P,D.rows.length<1000
structure uq(lo:Nat)(H:AH)(q N:Nat):Prop where
 lo_le:lo<=q
 ex:∃vs,H[q]?=some (.list vs)/\vs.length=N/\∀v∈vs,yF lo H v
section
variable {M:Nat}{es:ui}
theorem yF.app(g:yF lo H v):yF lo (H++l) v:=by obtain⟨m,p,P,a,c⟩:=g;exact⟨m,p,P,a.app,c⟩
theorem yF.fr(g:yF lo H v)(f:Fr b H.length H H1)(hb:b<lo):yF lo H1 v:=by obtain⟨m,p,P,a,c⟩:=g;exact⟨m,p,P,a.fr f hb,c⟩
theorem uq.fr(g:uq lo H q N)(f:Fr b H.length H H1)(hb:b<lo):uq lo H1 q N:=by obtain⟨a,vs,c,d,k⟩:=g;exact⟨a,vs,f.get (C2 (Nat.lt_of_lt_of_le hb a)) c,d,λv hv=>(k v hv).fr f hb⟩
def uf(n lo:Nat)(ρ:aB)(es:ui)(N:Nat):Prop:=∀H:AH,lo<=H.length->∃vs l,uj (af (n+1)) es 4 ρ H=.ok vs (H++l)/\vs.length=N/\∀v∈vs,yF lo (H++l) v
def pz(n lo:Nat)(ρ:aB)(e:PE):Prop:=∀H:AH,lo<=H.length->∃v l,ev (af (n+1)) e 4 ρ H=.ok v (H++l)/\yF lo (H++l) v
theorem uf.nil:uf n lo ρ .nil 0:=λH Z=>(ax [] [] (by rw[Ds];exact aj) rfl (λv hv=>(by cases hv)))
theorem uf.cons(a:pz n lo ρ e)(c:uf n lo ρ es N):uf n lo ρ (.cons e es) (N+1):=λH hl=>by
 obtain⟨v,l,e1,b1⟩:=a H hl;obtain⟨vs,l2,e2,h2,b2⟩:=c (H++l) (by rw[List.length_append];exact FK hl);refine(ax (v::vs) (l++l2) (by rw[<-List.append_assoc];exact ad e1 e2) (by rw[Di,h2]) (λu hu=>?_));rw[<-List.append_assoc]
 cases hu with
 |head=>exact b1.app
 |tail _ hu=>exact b2 u hu
theorem acv(a:uf n lo ρ es N)(hN:N<1000)(hl:lo<=H.length):∃q l,ev (af (n+1)) (.list es) 4 ρ H=.ok (.ref q) (H++l)/\uq lo (H++l) q N:=by obtain⟨vs,l,e1,h1,b1⟩:=a H hl;refine(bR ((H++l).length) (l++[.list vs]) (by rw[<-List.append_assoc];exact bB e1 (by unfold al;exact adf hN h1)) ?_);rw[<-List.append_assoc];exact⟨by rw[List.length_append];exact(FK hl),vs,aC,h1,λv hv=>(b1 v hv).app⟩
theorem uq.app(g:uq lo H q N):uq lo (H++l) q N:=by obtain⟨a,vs,c,d,k⟩:=g;exact⟨a,vs,aH c,d,λv hv=>(k v hv).app⟩
theorem pJ(g:uq lo H q N)(hq:ρ[4]?=some (.ref q))(a:uf n lo ρ es M)(hN:N<1000)(hM:M<1000)(hl:lo<=H.length):∃q' l,ev (af (n+1)) (.bin .add (.var 4) (.list es)) 4 ρ H=.ok (.ref q') (H++l)/\uq lo (H++l) q' (N+M):=by
 obtain⟨r,l,e1,g2⟩:=acv a hM hl;obtain⟨_,vs,c1,d1,k1⟩:=g.app (l:=l);obtain⟨_,us,c2,d2,k2⟩:=g2;refine(bR ((H++l).length) (l++[.list (vs++us)]) (by rw[<-List.append_assoc];exact am (Xv hq rfl) e1 (jS c1 c2 (d1▸d2▸CT (Nat.add_lt_add hN hM) (by decide)))) ?_);rw[<-List.append_assoc];refine⟨by rw[List.length_append];exact(FK hl),vs++us,aC,by rw[List.length_append,d1,d2],λv hv=>?_⟩;rcases DP.mp hv with hv |hv
 ·exact(k1 v hv).app
 ·exact(k2 v hv).app
structure Rh(ρ:aB)(w h p:Nat):Prop where
 p:ρ[2]?=some (.int p)
 f:ρ[3]?=some (.fn 41)
 h:ρ[7]?=some (.int h)
 w:ρ[8]?=some (.int w)
theorem lu(g:Rh ρ w h p)(e:run n 41 [.int w,.int h] H=t):ev (af n) (.tH 3 [8,7]) k ρ H=t:=by
 rw[E1.tH];rw[g.f];dsimp only;have:([8,7].mapM λj=>ρ[j]?)=some [.int w,.int h]:=by rw[GD,GD,g.w,g.h];rfl
 rw[this];exact(CM ⟨rfl,rfl⟩).trans e
noncomputable def sa:Nat->ui
 |0=>.nil
 |k+1=>.cons (.tH 3 [8,7]) (sa k)
theorem adF(g:Rh ρ w h p)(h0:0<w)(h1:w<1000)(h2:h<1000):∀(k:Nat)(H:AH),∃vs l,uj (af (n+1)) (sa k) 4 ρ H=.ok vs (H++l)/\vs.length=k/\∀x∈vs,tG H.length (H++l) x (dS 1 w h)
 |0,H=>(ax [] [] (by rw[Ds];exact aj) rfl (λx hx=>(by cases hx)))
 |k+1,H=>by
  obtain⟨v,l,e,a⟩:=mq (n:=n) (H:=H) h0 h1 h2;obtain⟨vs,l2,e2,d,c⟩:=adF g h0 h1 h2 k (H++l);refine(ax (v::vs) (l++l2) (by rw[<-List.append_assoc];exact ad (lu g e) e2) (by rw[Di,d]) (λx hx=>?_));rw[<-List.append_assoc]
  cases hx with
  |head=>exact a.app
  |tail _ hx=>exact(c x hx).vi (by rw[List.length_append];exact Nat.le_add_right _ _)
theorem oK{p':Nat}(e1:uj (af (n+1)) es 4 ρ H=.ok vs H1)(hl:lo<=H1.length)(Ci:ev (af (n+1)) pe 4 ρ H=.ok (.int p') H)(hv:vs.length=P.length)(hP:P.length<1000)(a:∀(k:Nat)(D:PD),P[k]?=some D->∃v,vs[k]?=some v/\tG lo H1 v D)(hb:fM m p' P)(hr:∀D∈P,D.rows.length<1000):
  ∃v,ev (af (n+1)) (.new 1 (.cons (.tO m) (.cons pe (.cons (.list es) .nil)))) 4 ρ H=.ok v (H1++[.list vs])/\yF lo (H1++[.list vs]) v:=by
 refine(ae _ (jf rfl (ad Xs (ad Ci (Xo (bB e1 (by unfold al;exact hv▸Nat.le_trans (CU hP) (by decide)))))) rfl) ⟨m,p',P,(ae H1.length rfl ⟨hl,vs,aC,hv,λk D hD=>?_⟩),hb,hP,hr⟩);obtain⟨v,i1,i2⟩:=a k D hD;exact(ae v i1 i2.app)
theorem iW{p':Nat}(g:Rh ρ w h p)(h0:0<w)(h1:w<1000)(h2:h<1000)(Ci:∀H:AH,ev (af (n+1)) pe 4 ρ H=.ok (.int p') H)(hk:k<1000)(hb:fM m p' (CR k (dS 1 w h))):pz n lo ρ (.new 1 (.cons (.tO m) (.cons pe (.cons (.list (sa k)) .nil)))):=λH hl=>by
 obtain⟨vs,l,e1,d1,c1⟩:=adF (n:=n) g h0 h1 h2 k H;refine o_ea (oK (lo:=lo) (pe:=pe) (m:=m) (p':=p') (P:=CR k (dS 1 w h)) e1 (by rw[List.length_append];exact FK hl) (Ci H) (by rw[d1,Ef]) (by rw[Ef];exact hk) (λi D hD=>by
  have hi:i<k:=by have:=(List.getElem?_eq_some_iff.mp hD).1;rwa [Ef] at this
  rw[Ih,CM hi] at hD;obtain rfl:=C6 hD;exact(ae _ (List.getElem?_eq_getElem (GL hi (id (FC d1)))) ((c1 _ (Gb (GL hi (id (FC d1))))).vi hl))) hb (λD hD=>by
  obtain rfl:=List.eq_of_mem_replicate hD;show(CR h (CR w (1:Int))).length<1000;rw[Ef];exact h2)) λv e2 b2=>?_
 exact(bR v (l++[.list vs]) (by rw[<-List.append_assoc];exact e2) (by rw[<-List.append_assoc];exact b2))
theorem tJ.put{r y:Nat}{R:List (List Int)}{xs xs':List Int}(g:tJ lo H r R)(h1:H[r]?=some (.list ps))(h2:ps[y]?=some (.ref rp))(h3:H[rp]?=some (row xs)):∃R',tJ lo (H.set rp (row xs')) r R'/\R'.length=R.length/\R'[y]?=some xs':=by
 obtain⟨g0,y6,a1,a2,a3⟩:=g;rw[h1] at a1;cases a1;have nr:=acZ h1 h2 h3;refine(aI ((CS R.length).map λk=>kA [] (ps[k]?.getD .none) λpp=>if pp=rp then xs' else R[k]?.getD []) ⟨g0,ps,(DN nr.symm).trans h1,by rw[List.length_map,DI];exact a2,λk zs hk=>?_⟩ (by rw[List.length_map,DI]) ?_)
 ·have zI:k<R.length:=by have:=(List.getElem?_eq_some_iff.mp hk).1;rwa [List.length_map,DI] at this
  obtain⟨pp,i1,i2,i3⟩:=a3 k _ (List.getElem?_eq_getElem zI);rw[De,ET zI] at hk;obtain rfl:=C6 hk;refine(aI pp i1 i2 ?_);show(H.set rp (row xs'))[pp]?=some (row (kA [] (ps[k]?.getD .none) λpp=>if pp=rp then xs' else R[k]?.getD []))
  rw[i1,Fv];show(H.set rp (row xs'))[pp]?=some (row (if pp=rp then xs' else R[k]?.getD []))
  by_cases c:pp=rp
  ·clear h2 h3 nr hk;subst c;rw[CM rfl];exact iZ (cD i3)
  ·rw[CQ c,List.getElem?_eq_getElem zI,Fv];exact(DN λq=>c q.symm).trans i3
 ·have hy:y<R.length:=by rw[<-a2];exact(List.getElem?_eq_some_iff.mp h2).1
  rw[De,ET hy];show some (kA [] (ps[y]?.getD .none) λpp=>if pp=rp then xs' else R[y]?.getD [])=_
  rw[h2,Fv];exact CN some (CM rfl)
end
section
theorem mQ(h1:xl k)(h2:br k≠m):fM m p (CR k (dS 1 w h)):=.inr (by rw[Ef];exact⟨h1,h2⟩)
theorem afj:fM "rgb" p (CR 1 (dS 1 w h)):=.inl λgp=>by have h1:=(gp.cnt (by decide)).1;rw[Ef] at h1;exact CP h1 (by decide)
theorem afh:fM m 1 P:=.inl λgp=>CP gp.pp.1 (by decide)
theorem afi:fM m 17 P:=.inl λgp=>CP gp.pp.2 (by decide)
theorem afg:fM m p []:=.inl λgp=>gp.ne rfl
theorem afk(hm:m≠"raw"):fM m p [dS 1 w h,dS 1 w h,dS 0 (w+1) h]:=.inl λgp=>by have h1:=((gp.cnt hm).2 _ _ rfl (Dt _ (Dt _ (Dy ..)))).1;change(((w+1:Nat)):Int)=w at h1;exact ak2 h1
theorem an3(g:Rh ρ w h p)(Ba:ρ.length=11)(h0:0<w)(h1:w<900)(h2:h<900):pz n lo ρ (.new 1 (.cons (.tO "rgb") (.cons (.var 2) (.cons (.list (.cons (.tH 3 [8,7]) (.cons (.tH 3 [8,7]) (.cons (.new 0 (.cons (.bin .add (.var 8) (.tm 1)) (.cons (.var 7) (.cons (.comp (.bin .mul (.list (.cons (.tm 0) .nil)) (.bin .add (.var 8) (.tm 1))) [9] true (.bi .range (.cons (.var 7) .nil)) .nil .nil) .nil)))) .nil)))) .nil)))):=λH hl=>by
 obtain⟨v1,l1,e1,a1⟩:=mq (n:=n) (H:=H) (w:=w) (h:=h) h0 (adg h0 h1) (CT h2 (by decide));obtain⟨v2,l2,e2,a2⟩:=mq (n:=n) (H:=H++l1) (w:=w) (h:=h) h0 (adg h0 h1) (CT h2 (by decide));have s8:∀j:Nat,(ρ.set 9 (.int j))[8]?=some (.int w):=λj=>(DN (by decide)).trans g.w;refine o_eea (abt (n:=n+1) (H:=H++l1++l2) (z:=0) (t:=9) (ρ:=ρ) (it:=.bi .range (.cons (.var 7) .nil)) (elt:=.bin .mul (.list (.cons (.tm 0) .nil)) (.bin .add (.var 8) (.tm 1))) (h:=h) (w:=w+1) (aM rfl (Xo (Xv g.h rfl)) (eO (CT h2 (by decide)))) (FO _) (Nat.lt_of_le_of_lt h1 (by decide)) (CT h2 (by decide)) (λj Hc=>by have e:=acL (H:=Hc) (w:=w+1) (z:=0) (FO _) (Nat.lt_of_le_of_lt h1 (by decide));rw[List.length_append (as:=Hc)] at e;exact am (bB (Xo Xi) (show 1<=al by decide)) (am (Xv (s8 j) rfl) Xi rfl) e)) λr l3 e3 a3=>?_
 have e4:ev (af (n+1)) (.new 0 (.cons (.bin .add (.var 8) (.tm 1)) (.cons (.var 7) (.cons (.comp (.bin .mul (.list (.cons (.tm 0) .nil)) (.bin .add (.var 8) (.tm 1))) [9] true (.bi .range (.cons (.var 7) .nil)) .nil .nil) .nil)))) 4 ρ (H++l1++l2)=.ok (.inst 0 [.int ((w+1:Nat)),.int h,.ref r]) (H++l1++l2++l3):=jf rfl (ad (am (Xv g.w rfl) Xi rfl) (ad (Xv g.h rfl) (Xo e3))) rfl
 have e5:uj (af (n+1)) (.cons (.tH 3 [8,7]) (.cons (.tH 3 [8,7]) (.cons (.new 0 (.cons (.bin .add (.var 8) (.tm 1)) (.cons (.var 7) (.cons (.comp (.bin .mul (.list (.cons (.tm 0) .nil)) (.bin .add (.var 8) (.tm 1))) [9] true (.bi .range (.cons (.var 7) .nil)) .nil .nil) .nil)))) .nil))) 4 ρ H=.ok [v1,v2,.inst 0 [.int ((w+1:Nat)),.int h,.ref r]] (H++l1++l2++l3):=ad (lu g e1) (ad (lu g e2) (Xo e4))
 have ll:lo<=(H++l1).length:=by rw[List.length_append];exact FK hl
 have ll2:lo<=(H++l1++l2).length:=by rw[List.length_append];exact FK ll
 have ll3:lo<=(H++l1++l2++l3).length:=by rw[List.length_append];exact FK ll2
 have a4:tG (H++l1++l2).length (H++l1++l2++l3) (.inst 0 [.int ((w+1:Nat)),.int h,.ref r]) (dS 0 (w+1) h):=(ae r rfl a3)
 refine o_ea (oK (lo:=lo) (pe:=.var 2) (m:="rgb") (p':=p) (P:= [dS 1 w h,dS 1 w h,dS 0 (w+1) h]) e5 ll3 (Xv g.p rfl) rfl (show 3<1000 by decide) (λk D hD=>by
  rcases k with _ |_ |_ |k
  ·cases hD;exact(ae v1 rfl ((a1.app.app).vi hl))
  ·cases hD;exact(ae v2 rfl (a2.app.vi ll))
  ·cases hD;exact(ae _ rfl (a4.vi ll2))
  ·cases hD) (afk (by decide)) (λD hD=>by
  simp only[CX,DK,DM] at hD;rcases hD with rfl |rfl |rfl<;>(show(CR h _).length<1000;rw[Ef];exact CT h2 (by decide)))) λv e6 b6=>?_
 exact(bR v (l1++l2++l3++[.list [v1,v2,.inst 0 [.int ((w+1:Nat)),.int h,.ref r]]]) (by simp only[<-List.append_assoc];exact e6) (by simp only[<-List.append_assoc];exact b6))
theorem anV(hp:tR lo H ug (br d) p (bJ f w h d))(D:uJ w h d p)
  (k:∀q l,uq H.length (H++l) q 9->W (CK (af (n+5)) (fY 6 iF) [.ref b,ug,.int p,.fn 41,.ref q,.undef,.undef,.int h,.int w,.undef,.undef] (H++l)) Q E):
  W (CK (af (n+5)) iF ([.ref b,ug]++CR 9 .undef) H) Q E:=by
 have dw:=D.ww;have dh:=D.hh;obtain⟨q,rfl,gq⟩:=hp;obtain⟨pl,g⟩:=gq.seen;obtain⟨r0,e0⟩:=mu g D.dd.le.1;have e1:∀a,(a=0\/a=1)->ev (af (n+5)) (.attr (.idx (.attr (.var 1) 5) (.tm 0)) a) 4 ([.ref b,.inst 1 [.str (br d),.int p,.ref q]]++CR 9 .undef) H=.ok (if a=0 then .int w else .int h) H:=λa ha=>by
  rcases ha with rfl |rfl
  ·exact ay (aR (ay (Xv rfl rfl) rfl) Xi (ci (d:=0) g.list e0)) rfl
  ·exact ay (aR (ay (Xv rfl rfl) rfl) Xi (ci (d:=0) g.list e0)) rfl
 refine aG (dF rfl (cq (ad (ay (Xv rfl rfl) rfl) (ad (e1 0 (.inl rfl)) (Xo (e1 1 (.inr rfl)))))) rfl) ?_;refine aG (ρ':= [.ref b,.inst 1 [.str (br d),.int p,.ref q],.int p,.fn 41,.undef,.undef,.undef,.int h,.int w,.undef,.undef]) (H1:=H) (by rw[E5.defn];rfl) ?_;have R0:∀a4:AV,Rh [.ref b,.inst 1 [.str (br d),.int p,.ref q],.int p,.fn 41,a4,.undef,.undef,.int h,.int w,.undef,.undef] w h p:=λa4=>⟨rfl,rfl,rfl,rfl⟩;have Ab:∀(a4:AV)(H:AH),ev (af (n+5)) (.var 2) 4 [.ref b,.inst 1 [.str (br d),.int p,.ref q],.int p,.fn 41,a4,.undef,.undef,.int h,.int w,.undef,.undef] H=.ok (.int p) H:=λa4 H=>Xv rfl rfl
 obtain⟨q1,l1,s1,g1⟩:=acv (n:=n+4) (H:=H) (lo:=H.length) (uf.cons (iW (k:=3) (m:="ycc") (R0 .undef) (fi dw) (c5 dw) (c5 dh) (Ab .undef) (by decide) (mQ (.inr (.inl rfl)) (by decide))) (uf.cons (iW (k:=4) (m:="ycck") (R0 .undef) (fi dw) (c5 dw) (c5 dh) (Ab .undef) (by decide) (mQ (.inr (.inr rfl)) (by decide))) uf.nil)) (by decide) (Nat.le_refl _)
 refine aG (aD s1) ?_
 obtain⟨q2,l2,s2,g2⟩:=pJ (n:=n+4) (ρ:= [.ref b,.inst 1 [.str (br d),.int p,.ref q],.int p,.fn 41,.ref q1,.undef,.undef,.int h,.int w,.undef,.undef]) g1 rfl (uf.cons (iW (k:=1) (m:="raw") (R0 (.ref q1)) (fi dw) (c5 dw) (c5 dh) (Ab _) (by decide) (mQ (.inl rfl) (by decide))) (uf.cons (iW (k:=3) (m:="raw") (R0 _) (fi dw) (c5 dw) (c5 dh) (Ab _) (by decide) (mQ (.inr (.inl rfl)) (by decide))) (uf.cons (iW (k:=1) (m:="rgb") (R0 _) (fi dw) (c5 dw) (c5 dh) (Ab _) (by decide) afj) uf.nil))) (by decide) (by decide) (by rw[List.length_append];exact ak3)
 refine aG (aD s2) ?_;obtain⟨q3,l3,s3,g3⟩:=pJ (n:=n+4) (ρ:= [.ref b,.inst 1 [.str (br d),.int p,.ref q],.int p,.fn 41,.ref q2,.undef,.undef,.int h,.int w,.undef,.undef]) g2 rfl (uf.cons (an3 (R0 (.ref q2)) rfl (fi dw) (Nat.lt_of_le_of_lt dw.2 (by decide)) (Nat.lt_of_le_of_lt dh.2 (by decide))) uf.nil) (by decide) (by decide) (by rw[List.length_append,List.length_append];exact ak4);refine aG (aD s3) ?_
 refine o_eea (pJ (n:=n+4) (ρ:= [.ref b,.inst 1 [.str (br d),.int p,.ref q],.int p,.fn 41,.ref q3,.undef,.undef,.int h,.int w,.undef,.undef]) g3 rfl (uf.cons (iW (k:=1) (m:="grey") (pe:=.tm 1) (p':=1) (R0 (.ref q3)) (fi dw) (c5 dw) (c5 dh) (λH=>Xi) (by decide) afh) (uf.cons (iW (k:=1) (m:="grey") (pe:=.tm 17) (p':=17) (R0 _) (fi dw) (c5 dw) (c5 dh) (λH=>Xi) (by decide) afi) (uf.cons (iW (k:=0) (m:="grey") (pe:=.var 2) (R0 _) (fi dw) (c5 dw) (c5 dh) (Ab _) (by decide) afg) uf.nil))) (by decide) (by decide) (by rw[List.length_append,List.length_append,List.length_append];exact ak5)) λq4 l4 s4 g4=>?_
 refine aG (aD s4) ?_;have e:H++l1++l2++l3++l4=H++(l1++l2++l3++l4):=by simp only[List.append_assoc]
 rw[e] at g4⊢;exact k q4 _ g4
end
section
theorem aao(h:¬vI p D):fM m p [D]:=.inl λgp=>h (gp.all D (Dy ..))
theorem adO{y:Nat}(hy:y<h):(dS z w h).rows[y]?=some (CR w z):=by show(CR h (CR w z))[y]?=_;rw[Ih,CM hy]
theorem aod{xs:List Int}(h:H[rp]?=some (row xs))(hz:xs.getLast? =some z):dX H .pop (.ref rp) []=.ok (.int z) (H.set rp (row xs.dropLast)):=by show aJ R.bad (az H rp) (λys=>aJ R.bad ys.getLast? λv=>R.ok v (H.set rp (.list ys.dropLast)))=_;rw[bq h];show aJ R.bad (xs.map AV.int).getLast? (λv=>R.ok v (H.set rp (.list (xs.map AV.int).dropLast)))=_;rw[List.getLast?_map,hz,<-List.map_dropLast];rfl
theorem aoc{xs:List Int}(h:H[rp]?=some (row xs)):l9 H .pop (.ref rp)=true:=by show aJ false (az H rp) _=_;rw[bq h];rfl
theorem aiw{r:Nat}(h:H[r]?=some (.list ps))(h0:0<ps.length)(hv:ps[ps.length-1]?=some v):eJ H (.ref r) (.int (-1))=some v:=by rw[ip h];unfold jy;rw[CQ (by decide),CM (ak6 h0),show((-1:Int)+ps.length).toNat=ps.length-1 by exact ak7 h0];exact hv
theorem ajZ{r:Nat}(h:H[r]?=some (.list ((CS k).map λZ=>AV.bool true))):bj H .uo (.bool false) (.ref r)=some true:=by
 have e:∀l:List Nat,gO (λy=>gI y (.bool false)) (l.map λZ=>AV.bool true)=some false:=by
  intro l
  induction l with
  |nil=>rfl
  |cons a l ih=>show(some false).bind (λa=>(gO (λy=>gI y (.bool false)) (l.map λZ=>AV.bool true)).map (a||·))=_;rw[ih];rfl
 show(aJ none (az H r) λxs=>gO (λy=>gI y (.bool false)) xs).map (!·)=_;rw[bq h];show(gO (λy=>gI y (.bool false)) ((CS k).map λZ=>AV.bool true)).map (!·)=_;rw[e];rfl
theorem tG.put{y r:Nat}{xs xs':List Int}(hv:v=.inst 0 [.int D.w,.int D.h,.ref r])(g:tJ lo H r D.rows)(h1:H[r]?=some (.list ps))(h2:ps[y]?=some (.ref rp))(h3:H[rp]?=some (row xs)):∃R',tG lo (H.set rp (row xs')) v ⟨D.w,D.h,R'⟩/\R'.length=D.rows.length/\R'[y]?=some xs':=by obtain⟨R',a,c,e⟩:=g.put (xs':=xs') h1 h2 h3;exact(aI R' (ae r hv a) c e)
theorem aiY(g:uq lo H q N)(hN:N<1000)(yW:0<lo)(hq:ρ[4]?=some (.ref q))(Ba:10<ρ.length):∃r H',ev (af (n+5)) (.comp (.call 29 (.cons (.var 10) .nil)) [10] true (.var 4) .nil .nil) 4 ρ H=.ok (.ref r) H'/\H'[r]?=some (.list ((CS N).map λZ=>AV.bool true)):=by
 obtain⟨ql,vs,c,e,k⟩:=g;have w0:W (ev (af (n+5)) (.comp (.call 29 (.cons (.var 10) .nil)) [10] true (.var 4) .nil .nil) 4 ρ H) (λv H'=>∃r,v=.ref r/\H'[r]?=some (.list ((CS N).map λZ=>AV.bool true))) bC:=by
  refine iA rfl (Xv hq rfl) (λj acc Hc=>acc=((CS j).map λZ=>AV.bool true)/\Fr 0 H.length H Hc) N (by rw[fe c,e];exact Nat.le_refl _) ⟨rfl,.refl⟩ (λj acc Hc hj i=>?_) (λacc Hc i=>?_) λacc Hc i=>?_
  ·obtain⟨rfl,fr⟩:=i;obtain⟨v,hv⟩:∃v,vs[j]?=some v:=⟨_,List.getElem?_eq_getElem (GL hj (id (FC e)))⟩;obtain⟨m,p,P,a1,a2,a3,a4⟩:=(k v (DZ hv)).fr fr yW;refine o_ea (aom (n:=n+4) a1 yW a3 a4 λH1 g1=>aqO g1 a2) λH' e1 f1=>?_;obtain⟨qq,rfl,_⟩:=a1;refine(ax _ _ ((cM (fr.get (C2 (Nat.lt_of_lt_of_le yW ql)) c)).trans (CN some hv)) rfl (.of (aK (Xo (Xv (Fa Ba) rfl)) e1) ⟨?_,fr.trans ((f1.less fr.le).any fr.le)⟩));rw[Jr,Dx];rfl
  ·obtain⟨rfl,fr⟩:=i;rw[cM (fr.get (C2 (Nat.lt_of_lt_of_le yW ql)) c),Dw (C5 e)]
  ·obtain⟨rfl,fr⟩:=i;exact(jv (by rw[List.length_map,DI];unfold al;exact Nat.le_trans (CU hN) (by decide)) _ rfl aC)
 (refine o_eeaea w0.ok λv H' e r zq4 x=>?_;subst zq4);exact(bR r H' e x)
theorem anW(g:uq lo H q N)(hN:N<900)(bk:Bk b H)(bl:b<lo)(ll:lo<=H.length)(hw:1<=w/\w<=3)(hh:1<=h/\h<=3)(hp:2<=p/\p<=16):
  W (CK (af (n+5)) (fY 6 iF) [.ref b,ug,.int p,.fn 41,.ref q,.undef,.undef,.int h,.int w,.undef,.undef] H) (λfl H'=>fl=.ret (.bool true)) bC:=by
 (refine o_eeaea (mq (n:=n+4) (H:=H) (w:=w) (h:=h) (fi hw) (c5 hw) (c5 hh)) λv5 l7 e7 r5 zq4 a5=>?_;subst zq4);have bk7:=bk.app (l:=l7);obtain⟨k1,H8,B0,e8,f8,b8⟩:=dq (n:=n+4) (bk7.app (l:= [.list [.int (-1),.int (2^p)]])) (top:=2) (by decide) (by decide);have bl7:=bk7.lt;have z8:H8[(H++l7).length]?=some (.list [.int (-1),.int (2^p)]):=f8.get (C2 bl7) aC;obtain⟨z,hz,zb⟩:∃z:Int,([.int (-1),.int (2^p)]:List AV)[k1]?=some (.int z)/\¬(0<=z/\z<=2^p-1):=by
  clear e8;rcases k1 with _ |_ |k
  ·exact⟨-1,rfl,λx=>CP x.1 (by decide)⟩
  ·exact(ae (2^p) rfl (λx=>by exact ak8 x))
  ·exact(ade B0).elim
 obtain⟨y,H9,hy,e9,f9,b9⟩:=dq (n:=n+4) b8 (top:=h) (fi hh) (adh hh);obtain⟨x,zv,hx,Aj,zT,Bp⟩:=dq (n:=n+4) b9 (top:=w) (fi hw) (adh hw);have f78:Fr b (H++l7).length (H++l7) H8:=(Fr.app (Nat.le_refl _)).trans (f8.less (by rw[List.length_append (as:=H++l7)];exact Nat.le_add_right _ _));have By:=f78.trans (f9.less f78.le);have asn:=By.trans (zT.less By.le);have bh:b<H.length:=bk.lt;have a9:=a5.fr By bh;have a10:=a5.fr asn bh;obtain⟨_,ps,i1,i2,i3⟩:=a9;obtain⟨rp,i4,i5,i6⟩:=i3 y _ (adO hy);have i1':=zT.get (by have:=a10.lo_le;exact C2 (Nat.lt_of_lt_of_le bh (by assumption))) i1;have i6':=zT.get (C2 (Nat.lt_of_lt_of_le bh i5)) i6;obtain⟨R5,p5,pl5,pr5⟩:=tG.put (xs':=(CR w (1:Int)).set x z) (D:=dS 1 w h) rfl a10 i1' i4 i6';have st:gZ zv (.ref rp) (.int x) (.int z)=some (zv.set rp (row ((CR w (1:Int)).set x z))):=by rw[sL i6' ⟨by exact adi,by rw[List.length_map,Ef];exact(C8.mpr hx)⟩,DW,<-List.map_set];rfl
 have nb5:¬vI p ⟨w,h,R5⟩:=λgd=>zb ((gd.rows y _ pr5).2 x z (Fa (by rw[Ef];exact hx)));have yP:Fr b H.length H (zv.set rp (row ((CR w (1:Int)).set x z))):=((Fr.app (Nat.le_refl _)).trans (asn.less (by rw[List.length_append];exact Nat.le_add_right _ _))).trans (.put (.inr i5));have AQ:Bk b (zv.set rp (row ((CR w (1:Int)).set x z))):=Bp.put (C2 (Nat.lt_of_lt_of_le bh i5));(revert st p5 yP AQ;refine cX (zv.set rp (row ((CR w (1:Int)).set x z))) λzw atV p5 st yP AQ=>?_);(refine o_eeaea (mq (n:=n+4) (H:=zw) (w:=w) (h:=h) (fi hw) (c5 hw) (c5 hh)) λv6 l12 Bt r6 zq4 a6=>?_;subst zq4);have a6':=a6;obtain⟨r6l,Cu,j1,j2,j3⟩:=a6;have lr6:Cu.length=h:=by rw[j2];exact Ef
 obtain⟨Cw,j4,j5,j6⟩:=j3 (h-1) _ (adO (GN hh.1 Fe));have j4':Cu[Cu.length-1]?=some (.ref Cw):=by rw[lr6];exact j4
 have gl:(CR w (1:Int)).getLast? =some 1:=by rw[List.getLast?_replicate,CQ (C2 hw.1)]
 have ep:=aod j6 gl;obtain⟨R6,p6,pl6,pr6⟩:=tG.put (xs':=(CR w (1:Int)).dropLast) (D:=dS 1 w h) rfl a6' j1 j4 j6;have nb6:¬vI p ⟨w,h,R6⟩:=λgd=>by have:=(gd.rows (h-1) _ pr6).1;rw[Lc,Ef] at this;change(((w-1:Nat)):Int)=(w:Int) at this;exact CP (Int.ofNat_inj.mp this) (CV (GN hw.1 Fe))
 have xJ:Fr b zw.length zw ((zw++l12).set Cw (row (CR w (1:Int)).dropLast)):=(Fr.app (Nat.le_refl _)).trans (.put (.inr j5));have Ct:=p5.fr xJ bh;have lh:=yP.le;have yQ:=yP.trans (xJ.less lh);(revert ep p6 xJ Ct yQ;refine cX ((zw++l12).set Cw (row (CR w (1:Int)).dropLast)) λAK atW ep p6 xJ Ct yQ=>?_);have g13:=g.fr yQ bl;have Cq:=yQ.le;have R5l:R5.length<1000:=by rw[pl5];show(CR h _).length<_;rw[Ef];exact Nat.lt_of_le_of_lt hh.2 (by decide)
 have R6l:R6.length<1000:=by rw[pl6];show(CR h _).length<_;rw[Ef];exact Nat.lt_of_le_of_lt hh.2 (by decide)
 have ρe:=λ(H:AH)=>Xv (Γ:=af (n+5)) (m:=4) (H:=H) (ρ:= [.ref b,ug,.int p,.fn 41,.ref q,.inst 0 [.int w,.int h,.ref r5],.inst 0 [.int w,.int h,.ref r6],.int h,.int w,.undef,.undef]) (j:=2) (v:=.int p) rfl rfl
 refine o_ea (oK (n:=n+4) (lo:=lo) (H:=AK) (ρ:= [.ref b,ug,.int p,.fn 41,.ref q,.inst 0 [.int w,.int h,.ref r5],.inst 0 [.int w,.int h,.ref r6],.int h,.int w,.undef,.undef]) (es:=.cons (.var 5) .nil) (pe:=.var 2) (m:="grey") (p':=p) (P:= [⟨w,h,R5⟩]) (Xo (Xv rfl rfl)) (Nat.le_trans ll Cq) (ρe _) rfl (show 1<1000 by decide) (λk D hD=>by
  cases k with
  |zero=>cases hD;exact(ae _ rfl (Ct.vi (My.mp ll)))
  |succ k=>cases hD) (aao nb5) (λD hD=>by obtain rfl:=DJ.mp hD;exact R5l)) λu1 x1 y1=>?_
 refine o_ea (oK (n:=n+4) (lo:=lo) (H:=AK++[.list [.inst 0 [.int w,.int h,.ref r5]]]) (ρ:= [.ref b,ug,.int p,.fn 41,.ref q,.inst 0 [.int w,.int h,.ref r5],.inst 0 [.int w,.int h,.ref r6],.int h,.int w,.undef,.undef]) (es:=.cons (.var 6) .nil) (pe:=.var 2) (m:="grey") (p':=p) (P:= [⟨w,h,R6⟩]) (Xo (Xv rfl rfl)) (by rw[List.length_append];exact Nat.le_trans (Nat.le_trans ll Cq) (Nat.le_add_right ..)) (ρe _) rfl (show 1<1000 by decide) (λk D hD=>by
  cases k with
  |zero=>cases hD;exact(ae _ rfl (p6.app.vi (Nat.le_trans ll lh)))
  |succ k=>cases hD) (aao nb6) (λD hD=>by obtain rfl:=DJ.mp hD;exact R6l)) λu2 x2 y2=>?_
 obtain⟨_,vs,c1,d1,Bc⟩:=g13;(revert x2 y2;refine cX (AK++[AO.list [.inst 0 [.int w,.int h,.ref r5]]]++[AO.list [.inst 0 [.int w,.int h,.ref r6]]]) λAL yS x2 y2=>?_);have c14:(AL++[.list [u1,u2]])[q]?=some (.list vs):=by rw[<-yS];exact aH (aH (aH c1))
 have ea:=jS c14 aC (by show _+2<_;exact d1▸CT (Lw hN 2) (by decide));have g15:uq lo (AL++[.list [u1,u2]]++[.list (vs++[u1,u2])]) (AL++[AO.list [u1,u2]]).length (N+2):=by
  refine⟨?_,_,aC,by rw[List.length_append,d1];rfl,λv hv=>?_⟩
  ·rw[<-yS,List.length_append,List.length_append,List.length_append];exact ala ll Cq
  ·rcases DP.mp hv with hv |hv
   ·rw[<-yS];exact(Bc v hv).app.app.app.app
   ·simp only[CX,DK,DM] at hv;clear c14 ea;rcases hv with rfl |rfl
    ·rw[<-yS];exact y1.app.app.app
    ·exact y2.app.app
 obtain⟨r,HF,eF,rF⟩:=aiY (n:=n) (ρ:= [.ref b,ug,.int p,.fn 41,.ref (AL++[AO.list [u1,u2]]).length,.inst 0 [.int w,.int h,.ref r5],.inst 0 [.int w,.int h,.ref r6],.int h,.int w,.undef,.undef]) g15 (CT (Lw hN 2) (by decide)) (L8 bl) rfl (show 10<11 by decide);have R7:Rh [.ref b,ug,.int p,.fn 41,.ref q,.undef,.undef,.int h,.int w,.undef,.undef] w h p:=⟨rfl,rfl,rfl,rfl⟩;have R9:Rh [.ref b,ug,.int p,.fn 41,.ref q,.inst 0 [.int w,.int h,.ref r5],.undef,.int h,.int w,.undef,.undef] w h p:=⟨rfl,rfl,rfl,rfl⟩;show W (CK (af (n+5)) (.cons _ (.cons _ (.cons _ (.cons _ (.cons _ (.cons _ .nil)))))) _ H) _ _;refine aG (aD (lu R7 e7)) ?_;refine aG (lp (aR (bB (ad (pH Xi) (Xo (am Xi (Xv rfl rfl) (jG (p:=p) (Nat.le_trans hp.2 (by decide)))))) (show 2<=al by decide)) (aK (ad (Xv rfl rfl) (Xo Xi)) e8) (ci z8 hz)) (aR (ay (Xv rfl rfl) rfl) (aK (ad (Xv rfl rfl) (Xo (Xv rfl rfl))) e9) (ci i1 i4)) (aK (ad (Xv rfl rfl) (Xo (Xv rfl rfl))) Aj) st) ?_;refine aG (aD (lu R9 Bt)) ?_;refine aG (eV (cS rfl (aR (ay (Xv rfl rfl) rfl) (pH Xi) (aiw j1 (lr6▸hh.1) j4')) (aoc j6) aj ep) rfl) ?_;refine aG (aD (am (Xv rfl rfl) (bB (ad x1 (Xo x2)) (show 2<=al by decide)) ea)) ?_;exact dG (aw Xb eF (ajZ rF)) rfl
end
section
theorem anY(hb:Bk b H)(hp:tR lo H ug (br d) p (bJ f w h d))(D:uJ w h d p):∃H',run (n+6) 30 [.ref b,ug] H=.ok (.bool true) H':=by
 have w0:=dH (n:=n+5) (k:=30) (np:=2) (nv:=11) (bd:=iF) (vs:= [.ref b,ug]) (H:=H) (Q:=λv H'=>v=.bool true) (E:=bC) rfl rfl
  (anV hp D λq l g=>(anW g (by decide) hb.app hb.lt (by rw[List.length_append];exact Nat.le_add_right _ _) D.ww D.hh D.pp).mono (λfl H' q=>by obtain rfl:=q;rfl) λZ Z x=>x)
 obtain⟨v,H',e,rfl⟩:=w0.ok;exact⟨H',e⟩
theorem adM:dc .pow (.int 10) (.int 18) H=.ok (.int (10^18)) H:=by show av R.bad (0<=(18:Int)/\(18:Int)<=1000/\(10:Int).natAbs<cI) (R.ok (AV.int (10^(18:Int).toNat)) H)=_;unfold av;rw[CM (by decide)];rfl
theorem af3:∃s t:Int,run (n+1) 19 [.tX ns] H=.ok (.ref H.length) (H++[.list [.int s,.int t]]):=by
 have e1:∃a:Int,ev (af n) (.vd (.cmp (.bi .len (.cons (.var 0) .nil)) .gt (.tm 0)) (.bi .int (.cons (.idx (.var 0) (.tm 0)) .nil)) (.tm 0)) 4 [.tX ns,.undef,.undef] H=.ok (.int a) H:=by
  cases ns with
  |nil=>exact⟨0,jQ (aw (aM rfl (Xo (Xv rfl rfl)) rfl) Xi (eY (x:=0) (y:=0) (by decide))) Xi⟩
  |cons a ns=>exact⟨a,jR (aw (aM rfl (Xo (Xv rfl rfl)) rfl) Xi (eY (x:=((a::ns).length:Int)) (y:=0) (Db (by rw[Di];exact alb)))) (aM rfl (Xo (aR (z:=.int a) (Xv rfl rfl) Xi rfl)) rfl)⟩
 obtain⟨a,e1⟩:=e1;have e2:∃c:Int,ev (af n) (.vd (.cmp (.var 1) .ge (.tm 0)) (.var 1) (.bin .sub (.tm 1) (.var 1))) 4 [.tX ns,.int a,.undef] H=.ok (.int c) H:=by
  by_cases h:0<=a
  ·exact⟨a,jR (aw (Xv rfl rfl) Xi (lK (Db h))) (Xv rfl rfl)⟩
  ·exact⟨1-a,jQ (aw (Xv rfl rfl) Xi (lK (DD h))) (am Xi (Xv rfl rfl) rfl)⟩
 obtain⟨c,e2⟩:=e2;have e3:∃s:Int,ev (af n) (.vd (.cmp (.var 2) .ge (.bin .pow (.tm 10) (.tm 18))) (.var 2) (.tm 0)) 4 [.tX ns,.int a,.int c] H=.ok (.int s) H:=by
  by_cases h:(10:Int)^18<=c
  ·exact⟨c,jR (aw (Xv rfl rfl) (am Xi Xi adM) (lK (Db h))) (Xv rfl rfl)⟩
  ·exact⟨0,jQ (aw (Xv rfl rfl) (am Xi Xi adM) (lK (DD h))) Xi⟩
 obtain⟨s,e3⟩:=e3;refine(cK s (c.fmod 1000003*31+11) (dQ (np:=1) (nv:=3) (bd:=aaF) rfl rfl ?_));exact Sc (aD e1) (Sc (aD e2) (Sr (cR (bB (ad e3 (Xo (am (am (am (Xv rfl rfl) Xi (mF (by decide))) Xi (fH (.inr (by decide)))) Xi rfl))) (show 2<=al by decide)))))
theorem abD:∀{T:List (Bs×Bs)}{e:Bool}{s:Nat},ba T<=s->cU e T s=false
 |[],_,_,_=>rfl
 |(g,w)::T,e,s,h=>by change g.length+w.length+ba T<=s at h;rw[j8 (alc h)];exact abD (LJ h)
theorem afH(x:Text T ws)(g:Right ws w h d p)(hc:eQ c)(ho:(aq++ak T (c::rest)).length<100000)(hl:rest.length=h*w*d*ah p)(hs:s<(aq++ak T (c::rest)).length):
  ∃H',run (n+5) 26 [.bytes ((aq++ak T (c::rest)).take s)] H=.ok (.str (iY T s)) H'/\Fr H.length H.length H H':=by
 have lt:=iU (T:=T) (c:=c) (rest:=rest)
 by_cases c1:s<2
 ·have e:=ajq (n:=n) (H:=H) (o:=(aq++ak T (c::rest)).take s) (by rw[Dn];exact Nat.lt_of_le_of_lt (Gf ..) c1);have e2:iY T s=ad0 0:=CM c1;rw[e2];exact(ae H (kI e (by decide)) (.refl))
 ·have e0:(aq++ak T (c::rest)).take s=aq++(ak T (c::rest)).take (s-2):=i9 (show 2<=s by exact Dq c1)
  have e2:iY T s=if cU true T (s-2)=true then("range":Str) else("cut":Str):=CQ c1
  have zX:((aq++ak T (c::rest)).take s).length<100000:=by rw[Dn];exact Nat.lt_of_le_of_lt (D9 ..) ho
  by_cases c2:s-2<ba T
  ·have e3:(ak T (c::rest)).take (s-2)=(ak T []).take (s-2):=by
    rw[iM,jM];have:=im (T:=T) (r:= []);change _=ba T+0 at this;exact this▸CU c2
   rw[e0,e3] at zX;rw[e0,e3];obtain⟨H',e4,f4⟩:=ajn (n:=n) (H:=H) x c2 zX;rw[e2];refine(ae H' ?_ f4)
   cases hd:cU true T (s-2) with
   |true=>rw[hd] at e4;exact kI e4 (by decide)
   |false=>rw[hd] at e4;exact kI e4 (by decide)
  ·have e3:(ak T (c::rest)).take (s-2)=ak T ((c::rest).take (s-2-ba T)):=by
    have l0:=im (T:=T) (r:= []);change _=ba T+0 at l0;rw[iM (r:=c::rest),iM (r:=(c::rest).take _),i9 (l0▸Dq c2),l0,Is]
   rw[e0,e3] at zX;rw[e0,e3];obtain⟨H',e4,f4⟩:=ajp (n:=n) (H:=H) x g hc zX hl (by rw[lt] at hs;exact ald hl hs);rw[e2,abD (Dq c2)];exact(ae H' (kI e4 (by decide)) f4)
theorem afb{t:List Nat}(hd:Γ.hd=false)(hi:ev Γ it 4 ρ H=.ok src H1)(I:Nat->aB->AH->Prop)(N:Nat)(hN:N<=cJ H1 src)(h0:I 0 ρ H1)
  (hs:∀j ρ H,j<N->I j ρ H->∃v vk,aS H src j=some (some v)/\bz H t one v ρ=some vk/\W (CK Γ bd vk H) (λfl H'=>∃ρ',fl=.next ρ'/\I (j+1) ρ' H') E)
  (he:∀ρ H,I N ρ H->aS H src N=some none):W (exec Γ (.for t one it bd) ρ H) (λfl H'=>∃ρ',fl=.next ρ'/\I N ρ' H') E:=by
 have e:exec Γ (.for t one it bd) ρ H=ga (λH j=>aS H src j) (λv ρ H=>match bz H t one v ρ with
    |some ρ=>CK Γ bd ρ H
    |none=>.bad) (cJ H1 src+1) 0 ρ H1:=by
  rw[E5.for];rw[hd];exact X1 hi rfl
 rw[e];refine ab5 I N (λj ρ H hj i=>?_) he _ 0 ρ H1 h0 (Ec _) (Ew hN);obtain⟨v,vk,e1,e2,w⟩:=hs j ρ H hj i;refine(ae v e1 ?_);rw[e2];exact w
theorem aqe{a0:AV}(hb:Bk b H)(x:Text T ws)(g:Right ws w h d p)(hc:eQ c)(ho:(aq++ak T (c::rest)).length<100000)(hl:rest.length=h*w*d*ah p)(yA:H[sp]?=some (.list (c6 (ck 2 T))))(bs:b≠sp):
  ∃a8 a9 H',exec (af (n+6)) nq [a0,.ref b,a2,a3,a4,a5,.ref sp,.bytes (aq++ak T (c::rest)),.undef,.undef] H=.ok (.next [a0,.ref b,a2,a3,a4,a5,.ref sp,.bytes (aq++ak T (c::rest)),a8,a9]) H'/\Fr b H.length H H'/\Bk b H':=by
 have lt:=iU (T:=T) (c:=c) (rest:=rest);have tl:T.length<1000\/1000<=T.length:=LS _ _;have tw:T.length=2*ws.length+1:=by
  have:=CN DO x.words
  rwa [List.length_map,aeO] at this
 have hT:∀t∈T,0<t.2.length:=by
  (refine o_eeeaaa (sV ws [] T x.words x.wM x.names) λg0 n0 q zq3 a1 a2=>r_a λa3 Z=>?_;clear x ho yA lt tl tw;subst zq3);have:∀(q:List d7)(nm:Bs)(es:List (Bs×Bs)),gS q nm es->∀t∈ez q,0<t.2.length:=by
   intro q
   induction q with
   |nil=>intro _ _ _ t ht;cases ht
   |cons z q ih=>
    intro nm es hq t ht;obtain⟨z1,z2,z3,z4⟩:=z
    cases ht with
    |head=>exact jE hq.2.2.2.2.1
    |tail _ ht=>
     cases ht with
     |head=>exact jE hq.2.2.2.2.2.2.1
     |tail _ ht=>exact ih _ _ hq.2.2.2.2.2.2.2 t ht
  intro t ht
  cases ht with
  |head=>exact jE a2
  |tail _ ht=>exact this q _ _ a3 t ht
 have w0:W (exec (af (n+6)) nq [a0,.ref b,a2,a3,a4,a5,.ref sp,.bytes (aq++ak T (c::rest)),.undef,.undef] H) (λfl H'=>∃ρ',fl=.next ρ'/\(∃a8 a9,ρ'=[a0,.ref b,a2,a3,a4,a5,.ref sp,.bytes (aq++ak T (c::rest)),a8,a9])/\Fr b H.length H H'/\Bk b H') bC:=by
  unfold nq;refine afb rfl (aM rfl (Xo Xi) (eO (k:=10) (by decide))) (λj ρ' H'=>(∃a8 a9,ρ'=[a0,.ref b,a2,a3,a4,a5,.ref sp,.bytes (aq++ak T (c::rest)),a8,a9])/\Fr b H.length H H'/\Bk b H') 10 (Nat.le_refl 10) ⟨(cK _ _ rfl),.refl,hb⟩ (λj ρ' Hc hj i=>?_) (λρ' Hc i=>rfl);(revert i;refine r_aa λzq0 fr bk=>?_;obtain⟨a8,a9,rfl⟩:=zq0);have size:∃(s:Nat)(H1:AH),s<(aq++ak T (c::rest)).length/\Fr b Hc.length Hc H1/\Bk b H1/\ev (af (n+6)) (.vd (.cmp (.var 8) .gt (.tm 1)) (.call 20 (.cons (.var 1) (.cons (.bi .len (.cons (.var 7) .nil)) .nil))) (.var 8)) 4 [a0,.ref b,a2,a3,a4,a5,.ref sp,.bytes (aq++ak T (c::rest)),.int j,a9] Hc=.ok (.int s) H1:=by
   by_cases c1:1<j
   ·obtain⟨s,H1,h1,e1,f1,b1⟩:=dq (n:=n+5) bk (top:=(aq++ak T (c::rest)).length) (ale ho hl lt) (CT ho (by decide));exact(jx s H1 h1 f1 b1 (jR (aw (Xv rfl rfl) Xi (eY (Db (Int.lt_of_toNat_lt c1)))) (aK (ad (Xv rfl rfl) (Xo (aM rfl (Xo (Xv rfl rfl)) EO))) e1)))
   ·exact(jx j Hc (alf ho hl lt hj c1) (.refl) bk (jQ (aw (Xv rfl rfl) Xi (eY (DD (alg hj c1)))) (Xv rfl rfl)))
  obtain⟨s,H1,s1,f1,b1,e1⟩:=size;obtain⟨H2,e2,f2⟩:=afH (n:=n+1) (H:=H1) x g hc ho hl s1;have Ai:=b1.lt;have b2:=b1.fr f2 Ai (CV Ai);have f02:Fr b Hc.length Hc H2:=f1.trans ((f2.less f1.le).any f1.le);have s2:H2[sp]?=some (.list (c6 (ck 2 T))):=f02.get bs.symm (fr.get bs.symm yA);obtain⟨H3,e3,f3⟩:=agF (n:=n+5) (s:=s) s2 hT (by have:=x.few;exact tw▸Nat.lt_of_le_of_lt (EK (Ea 2 (CU this))) (by decide));have b2l:=b2.lt;have es:=aeb (H:=H1) (x:=aq++ak T (c::rest)) (u:=s) (CT s1 (CT ho (by decide)));refine(ax (.int j) _ (by rw[show(AV.uV 0 ((10:Nat):Int) 1)=.uV 0 ((10:Nat):Int) 1 from rfl,cr,CM hj]) rfl (aG (aD e1) (fQ (aw (aK (Xo (fT (Xv rfl rfl) aj (Xo (Xv rfl rfl)) aj es)) e2) (aK (ad (Xv rfl rfl) (Xo (Xv rfl rfl))) e3) na) (bA (cY _ rfl (cK _ _ rfl) ?_ (b2.fr f3 b2l (CV b2l)))))));have Bw:=fr.trans (f02.less fr.le);exact Bw.trans ((f3.less Bw.le).any Bw.le)
 (refine o_eeaeaa w0.ok λfl H' e ρ' zq4 zq5=>r_a λfr bk=>?_;subst zq4;obtain⟨a8,a9,rfl⟩:=zq5);exact(bZ a8 a9 H' e fr bk)
end
theorem adL:(bJ f w h d).length=d:=by unfold bJ;rw[List.length_map,DI]
set_option maxHeartbeats 4000000 in
theorem plain(ns:List Int):AM 20 (.tX ns) []:=by
 obtain⟨s,t,e1⟩:=af3 (n:=19) (H:= []) (ns:=ns);have b1:Bk 0 ([]++[AO.list [.int s,.int t]]):=(cK s t rfl);(revert e1 b1;refine cX (([]++[AO.list [.int s,.int t]]:AH)) λH1 hH1 e1 b1=>?_);obtain⟨k,H2,hk,e2,f2,b2⟩:=dq (n:=19) b1 (top:=15) (by decide) (by decide);refine o_eeeeee (an6 (n:=18) (p:=2+k) b2 (alh hk)) λug w h d f H3=>r_aaaaa λe3 D g3 hf f3 b3=>?_;have l2:0<H2.length:=b2.lt;refine o_eeeaaa (aqK (n:=18) g3 b3 l2 D) λws wr H4 e4 gw hws=>r_aa λlwr f4 b4=>?_;have g4:=g3.fr f4 l2;have AJ:0≠wr:=by have:=b3.lt;exact CV (Nat.lt_of_lt_of_le this lwr)
 refine o_eeeea (rc (n:=17) b4 hws AJ (rG gw) (λx hx=>by have y1:=gw.ze x hx;have y2:=qV y1.1;exact⟨Nat.le_trans y2 (by decide),Nat.le_trans y1.2.2 (by decide)⟩) (by have:=gw.len;exact Nat.le_trans this (by decide))) λT c sp H5 e5 o5=>?_
 have g5:=g4.fr o5.fr l2;have atx:=o5.fr.get AJ.symm hws;have sp0:0≠sp:=by have:=o5.le;have:=b4.lt;exact CV (Nat.lt_of_lt_of_le this (by assumption))
 have e6:=sv (n:=19) g5 D.dd.le.1 (by have:=D.ww;exact gT this) (by have:=D.hh;exact gT this) (by have:=D.dd.le;exact Nat.le_trans this.2 (by decide)) (λk y x Z Z Z=>ry hf D.pp.2 k y x);have x5:=sT o5 gw.names gw.len;have tl:=sB o5 gw.len;have fl:=lT (f:=f) D;have el:=jo (p:=2+k) (fl:=au f w h d);have l6:(aq++ak T []++[c]).length=2+ba T+1:=by rw[List.length_append,List.length_append,im];rfl
 have ho:(aq++ak T (c::aE (ah (2+k)) (au f w h d))).length<100000:=by rw[iU];exact Nat.lt_of_le_of_lt (Dd (En (C4 tl 2) 1) (Nat.le_trans el (Eh 2 fl))) (by decide)
 have zX:(aq++ak T (c::(aE (ah (2+k)) (au f w h d)++[]))).length<100000:=by rw[Ds];exact ho
 have A0:=kb (w:=w) (h:=h) (d:=d) hf;obtain⟨p1,H6,e7,f6,g6⟩:=acG (n:=16) (H:=H5) (more:= []) x5 (gw.right D) o5.stop zX A0;rw[Ds] at e7;have b5l:=o5.bk.lt;have b6:=o5.bk.fr f6 b5l (CV b5l);have f6':=f6.any (b:=0) (Nat.le_refl _);have BD:=g5.fr f6' l2;obtain⟨H7,e8,f7⟩:=ad2 (n:=18) g6 BD (by rw[adL];have:=D.dd.le;exact adj this);have f7':=f7.any (b:=0) (Nat.le_refl _);have b6l:=b6.lt;have b7:=b6.fr f7 b6l (CV b6l);have g7:=BD.fr f7' l2;obtain⟨H8,e9,f8⟩:=aqV (n:=16) g7 l2 D hf;have f8':=f8.any (b:=0) (Nat.le_refl _);have b7l:=b7.lt;have b8:=b7.fr f8 b7l (CV b7l);have g8:=g7.fr f8' l2;obtain⟨p2,H9,Aj,f9,g9⟩:=acG (n:=16) (H:=H8) (more:= []) (aqi D) ((qr D).right D) (show eQ 10 by unfold eQ;decide) (CT (aaO (f:=f) D) (by decide)) A0;have f9':=f9.any (b:=0) (Nat.le_refl _);have b8l:=b8.lt;have b9:=b8.fr f9 b8l (CV b8l);have BE:=g8.fr f9' l2;obtain⟨zv,e11,zT⟩:=ad2 (n:=18) g9 BE (by rw[adL];have:=D.dd.le;exact adj this);have asl:=zT.any (b:=0) (Nat.le_refl _);have b9l:=b9.lt;have Bp:=b9.fr zT b9l (CV b9l);have yI:=BE.fr asl l2;have asm:Fr 0 H5.length H5 zv:=(((f6'.trans (f7'.less f6.le)).trans (f8'.less (Nat.le_trans f6.le f7.le))).trans (f9'.less (Nat.le_trans (Nat.le_trans f6.le f7.le) f8.le))).trans (asl.less (Nat.le_trans (Nat.le_trans (Nat.le_trans f6.le f7.le) f8.le) f9.le));have atG:=asm.get sp0.symm o5.vX;have atP:=asm.get AJ.symm atx;obtain⟨a8,a9,zw,Bt,f11,AQ⟩:=aqe (n:=14) (a0:=.tX ns) (a2:=.int (2+k:Nat)) (a3:=ug) (a4:=.ref wr) (a5:=.bytes (aq++ak T []++[c])) Bp x5 (gw.right D) o5.stop ho (by rw[jp,fZ]) atG sp0;have BC:=yI.fr f11 l2;obtain⟨Bj,e13,yi,b12⟩:=aqA (n:=14) AQ l2 BC (f11.get AJ.symm atP) AJ gw D hf;have g12:=BC.fr yi l2;obtain⟨AK,e14⟩:=anY (n:=14) b12 g12 D;obtain⟨q,hq,_⟩:=id g5;clear g3 g4 g5 BD g7 g8 BE yI BC g12;subst hq;obtain⟨q1,A4,_⟩:=id g6;clear g6;subst A4;have ex1:CK (af 20) (eS 6 lx) ([.tX ns]++CR 9 .undef) []=.ok (.next [.tX ns,.ref 0,.int ((2+k:Nat)),.inst 1 [.str (br d),.int ((2+k:Nat)),.ref q],.ref wr,.bytes (aq++ak T []++[c]),.ref sp,.bytes (aq++ak T (c::aE (ah (2+k)) (au f w h d))),.undef,.undef]) H5:=by rw[<-qB];exact Sc (aD (aK (Xo (Xv rfl rfl)) e1)) (Sc (aD (am Xi (aK (ad (Xv rfl rfl) (Xo Xi)) e2) (z:=.int ((2+k:Nat))) (by rw[F8];rfl))) (Sc (aD (aK (ad (Xv rfl rfl) (Xo (Xv rfl rfl))) e3)) (Sc (aD (aK (ad (Xv rfl rfl) (Xo (Xv rfl rfl))) e4)) (Sc (dF rfl (aK (ad (Xv rfl rfl) (Xo (Xv rfl rfl))) e5) rfl) (Sc (aD (am (Xv rfl rfl) (aK (Xo (Xv rfl rfl)) e6) (eB (Nat.lt_of_le_of_lt (Dd (Nat.le_trans (C5 l6) (En (C4 tl 2) 1)) (Nat.le_trans el (Eh 2 fl))) (by decide))))) Sn)))))
 have ex2:ev (af 20) aex 4 [.tX ns,.ref 0,.int ((2+k:Nat)),.inst 1 [.str (br d),.int ((2+k:Nat)),.ref q],.ref wr,.bytes (aq++ak T []++[c]),.ref sp,.bytes (aq++ak T (c::aE (ah (2+k)) (au f w h d))),.undef,.undef] H5=.ok (.bool false) H7:=iB (r:=true) (aK (ad (aK (Xo (Xv rfl rfl)) e7) (Xo (Xv rfl rfl))) e8)
 have ex3:ev (af 20) kX 4 [.tX ns,.ref 0,.int ((2+k:Nat)),.inst 1 [.str (br d),.int ((2+k:Nat)),.ref q],.ref wr,.bytes (aq++ak T []++[c]),.ref sp,.bytes (aq++ak T (c::aE (ah (2+k)) (au f w h d))),a8,a9] zw=.ok (.bool true) Bj:=aK (ad (Xv rfl rfl) (ad (Xv rfl rfl) (Xo (Xv rfl rfl)))) e13
 have ex4:uj (af 20) jU 4 [.tX ns,.ref 0,.int ((2+k:Nat)),.inst 1 [.str (br d),.int ((2+k:Nat)),.ref q],.ref wr,.bytes (aq++ak T []++[c]),.ref sp,.bytes (aq++ak T (c::aE (ah (2+k)) (au f w h d))),a8,a9] Bj=.ok [.ref 0,.inst 1 [.str (br d),.int ((2+k:Nat)),.ref q]] Bj:=ad (Xv rfl rfl) (Xo (Xv rfl rfl))
 exact .mk ex1 ex2 (Xv (Γ:=af 20) rfl rfl) (Xv (Γ:=af 20) rfl rfl) e9 Aj e11 Bt ex3 ex4 rfl e14
end L
end
end Internal
end Mine
theorem PySem.Challenge.cw_pf0241_01_holds : PySem.Challenge.rw_pf0241_01.Holds :=
  Mine.Internal.aq9 fun ns _ => Mine.Internal.L.plain ns
